import PyProof.Rows.All
import PySem.Str
import HandS.ForMost
import HandS.More
import HandS.Set
import HandS.Deep
import HandS.SetKeys
import KE.SortData
import KE.KDictKeyed
import KE.KDictPairs
import HandS.Zip
import PyProof.Rows.InDataRows
import HandS.TupSets
import PyProof.FactsAll.subtypes_4
import Wide.All
import OpenK.AllK
import Wide.FinOn
import KE.KStateDown
import Lean
import HandS.WordsExc
import HandS.Defaults
import HandS.Head0
import HandS.Head1
import HandS.Head2
import HandS.HeadEnd
import HandS.HeadHook1
import HandS.HeadHook2
import PySem.Challenge.RW_pathask_k62_whole_within
import HandS.TupAny
set_option Elab.async false
set_option linter.all false
namespace Pk
set_option autoImplicit false
open PySem (Str)
inductive Pat where
  | stay
  | step (side word : Str)
  | att (m : Str)
  | off (m : Str)
  | thn (ps : List Pat)
  | eit (ps : List Pat)
  | many (p : Pat)

def star : Str := Str.ofString "*"
def holdsAt : Pat → (Str → Bool) → Bool
  | .stay, _ => true
  | .att m, mk => mk m
  | .off m, mk => !mk m
  | _, _ => false
def stepBy : Pat → Str → Str → Bool
  | .step s w', sd, w => decide (s = sd) && (decide (w' = star) || decide (w' = w))
  | _, _, _ => false
structure Ln where
  mks : Nat → Str → Bool
  steps : List (Str × Str)
inductive Star (R : Nat → Nat → Prop) : Nat → Nat → Prop where
  | refl (i : Nat) : Star R i i
  | more {i k j : Nat} : R i k → Star R k j → Star R i j
mutual
def Fit (L : Ln) : Pat → Nat → Nat → Prop
  | .stay, i, j => i = j
  | .step s w, i, j => j = i + 1 ∧ ∃ sd w', L.steps[i]? = some (sd, w') ∧ stepBy (.step s w) sd w' = true
  | .att m, i, j => i = j ∧ L.mks i m = true
  | .off m, i, j => i = j ∧ L.mks i m = false
  | .thn ps, i, j => FitSeq L ps i j
  | .eit ps, i, j => FitAny L ps i j
  | .many p, i, j => Star (Fit L p) i j
def FitSeq (L : Ln) : List Pat → Nat → Nat → Prop
  | [], i, j => i = j
  | p :: ps, i, j => ∃ k, Fit L p i k ∧ FitSeq L ps k j
def FitAny (L : Ln) : List Pat → Nat → Nat → Prop
  | [], _, _ => False
  | p :: ps, i, j => Fit L p i j ∨ FitAny L ps i j
end
abbrev Move := Nat × Pat × Nat
mutual
def fr : Pat → Nat
  | .thn ps => frs ps + (ps.length - 1)
  | .eit ps => frs ps
  | .many p => fr p + 1
  | _ => 0
def frs : List Pat → Nat
  | [] => 0
  | p :: ps => fr p + frs ps
end
mutual
def lay : Pat → Nat → Nat → Nat → List Move
  | .thn ps, a, b, n => layRow ps a b n
  | .eit ps, a, b, n => layAny ps a b n
  | .many p, a, b, n => (a, .stay, n) :: (n, .stay, b) :: lay p n n (n + 1)
  | .stay, a, b, _ => [(a, .stay, b)]
  | .step s w, a, b, _ => [(a, .step s w, b)]
  | .att m, a, b, _ => [(a, .att m, b)]
  | .off m, a, b, _ => [(a, .off m, b)]
def layAny : List Pat → Nat → Nat → Nat → List Move
  | [], _, _, _ => []
  | p :: ps, a, b, n => lay p a b n ++ layAny ps a b (n + fr p)
def layRow : List Pat → Nat → Nat → Nat → List Move
  | [], a, b, _ => [(a, .stay, b)]
  | [p], a, b, n => lay p a b n
  | p :: q :: r, a, b, n => lay p a n (n + 1) ++ layRow (q :: r) n b (n + 1 + fr p)
end
inductive Path (L : Ln) (ms : List Move) : Nat → Nat → Nat → Nat → Prop where
  | refl (q i : Nat) : Path L ms q i q i
  | eps {q q1 q' i j : Nat} {l : Pat} : (q, l, q1) ∈ ms → holdsAt l (L.mks i) = true → Path L ms q1 i q' j → Path L ms q i q' j
  | step {q q1 q' i j : Nat} {l : Pat} {sd w : Str} : (q, l, q1) ∈ ms → L.steps[i]? = some (sd, w) → stepBy l sd w = true → Path L ms q1 (i + 1) q' j → Path L ms q i q' j
theorem Path.trans {L : Ln} {ms : List Move} {q i q1 k q' j : Nat} (h : Path L ms q i q1 k) (h' : Path L ms q1 k q' j) : Path L ms q i q' j := by
  induction h with
  | refl => exact h'
  | eps m e _ ih => exact .eps m e (ih h')
  | step m s e _ ih => exact .step m s e (ih h')
theorem Path.mono {L : Ln} {ms ms' : List Move} (sub : ∀ mv ∈ ms, mv ∈ ms') {q i q' j : Nat} (h : Path L ms q i q' j) : Path L ms' q i q' j := by
  induction h with
  | refl => exact .refl _ _
  | eps m e _ ih => exact .eps (sub _ m) e ih
  | step m s e _ ih => exact .step (sub _ m) s e ih
mutual
theorem comp (L : Ln) (ms : List Move) : ∀ (p : Pat) (a b n i j : Nat), (∀ mv ∈ lay p a b n, mv ∈ ms) → Fit L p i j → Path L ms a i b j
  | .stay, a, b, n, i, j, h, f => by
    simp only [Fit] at f; subst f
    exact .eps (h (a, .stay, b) (by simp [lay])) rfl (.refl _ _)
  | .step s w, a, b, n, i, j, h, f => by
    simp only [Fit] at f
    obtain ⟨rfl, sd, w', e, sb⟩ := f
    exact .step (h (a, .step s w, b) (by simp [lay])) e sb (.refl _ _)
  | .att m, a, b, n, i, j, h, f => by
    simp only [Fit] at f
    obtain ⟨rfl, e⟩ := f
    exact .eps (h (a, .att m, b) (by simp [lay])) e (.refl _ _)
  | .off m, a, b, n, i, j, h, f => by
    simp only [Fit] at f
    obtain ⟨rfl, e⟩ := f
    exact .eps (h (a, .off m, b) (by simp [lay])) (by simp [holdsAt, e]) (.refl _ _)
  | .thn ps, a, b, n, i, j, h, f => by
    simp only [Fit] at f
    simp only [lay] at h
    exact compRow L ms ps a b n i j h f
  | .eit ps, a, b, n, i, j, h, f => by
    simp only [Fit] at f
    simp only [lay] at h
    exact compAny L ms ps a b n i j h f
  | .many p, a, b, n, i, j, h, f => by
    simp only [Fit] at f
    simp only [lay] at h
    refine .eps (h (a, .stay, n) (by simp)) rfl ?_
    refine Path.trans (q1 := n) (k := j) ?_ (.eps (h (n, .stay, b) (by simp)) rfl (.refl _ _))
    have hp : ∀ mv ∈ lay p n n (n + 1), mv ∈ ms := fun mv hm => h mv (by simp [hm])
    induction f with
    | refl => exact .refl _ _
    | more f1 _ ih => exact (comp L ms p n n (n + 1) _ _ hp f1).trans ih
theorem compAny (L : Ln) (ms : List Move) : ∀ (ps : List Pat) (a b n i j : Nat), (∀ mv ∈ layAny ps a b n, mv ∈ ms) → FitAny L ps i j → Path L ms a i b j
  | [], _, _, _, _, _, _, f => by simp [FitAny] at f
  | p :: ps, a, b, n, i, j, h, f => by
    simp only [FitAny] at f
    simp only [layAny, List.mem_append] at h
    rcases f with f | f
    · exact comp L ms p a b n i j (fun mv hm => h mv (.inl hm)) f
    · exact compAny L ms ps a b _ i j (fun mv hm => h mv (.inr hm)) f
theorem compRow (L : Ln) (ms : List Move) : ∀ (ps : List Pat) (a b n i j : Nat), (∀ mv ∈ layRow ps a b n, mv ∈ ms) → FitSeq L ps i j → Path L ms a i b j
  | [], a, b, n, i, j, h, f => by
    simp only [FitSeq] at f; subst f
    exact .eps (h (a, .stay, b) (by simp [layRow])) rfl (.refl _ _)
  | [p], a, b, n, i, j, h, f => by
    simp only [FitSeq] at f
    obtain ⟨k, f, rfl⟩ := f
    simp only [layRow] at h
    exact comp L ms p a b n i k h f
  | p :: q :: r, a, b, n, i, j, h, f => by
    rw [FitSeq] at f
    obtain ⟨k, f1, f2⟩ := f
    simp only [layRow, List.mem_append] at h
    exact (comp L ms p a n (n + 1) i k (fun mv hm => h mv (.inl hm)) f1).trans (compRow L ms (q :: r) n b _ k j (fun mv hm => h mv (.inr hm)) f2)
end

/-! soundness: a predicate for each stand -/
def Cons (L : Ln) (G : Nat → Nat → Prop) (ms : List Move) : Prop :=
  ∀ q l q1, (q, l, q1) ∈ ms → (∀ i, holdsAt l (L.mks i) = true → G q1 i → G q i) ∧
    ∀ i sd w, L.steps[i]? = some (sd, w) → stepBy l sd w = true → G q1 (i + 1) → G q i
theorem Cons.path {L : Ln} {G : Nat → Nat → Prop} {ms : List Move} (c : Cons L G ms) {q i q' j : Nat} (h : Path L ms q i q' j) : G q' j → G q i := by
  induction h with
  | refl => exact id
  | eps m e _ ih => exact fun g => (c _ _ _ m).1 _ e (ih g)
  | step m s e _ ih => exact fun g => (c _ _ _ m).2 _ _ _ s e (ih g)
theorem Cons.nil (L : Ln) (G : Nat → Nat → Prop) : Cons L G [] := fun _ _ _ h => by cases h
theorem Cons.append {L : Ln} {G : Nat → Nat → Prop} {xs ys : List Move} (h : Cons L G xs) (k : Cons L G ys) : Cons L G (xs ++ ys) := fun q l q1 m =>
  (List.mem_append.mp m).elim (h q l q1) (k q l q1)
theorem Cons.congr {L : Ln} {G G' : Nat → Nat → Prop} {n : Nat} {ms : List Move} (c : Cons L G ms) (b : ∀ mv ∈ ms, mv.1 < n ∧ mv.2.2 < n) (e : ∀ q, q < n → G' q = G q) : Cons L G' ms := fun q l q1 m => by
  obtain ⟨b1, b2⟩ := b _ m
  rw [e q b1, e q1 b2]
  exact c q l q1 m
mutual
theorem layB : ∀ (p : Pat) (a b n : Nat), a < n → b < n → ∀ mv ∈ lay p a b n, mv.1 < n + fr p ∧ mv.2.2 < n + fr p
  | .thn ps, a, b, n, ha, hb, mv, h => by
    simp only [lay] at h
    simp only [fr]
    exact layRowB ps a b n ha hb mv h
  | .eit ps, a, b, n, ha, hb, mv, h => by
    simp only [lay] at h
    simp only [fr]
    exact layAnyB ps a b n ha hb mv h
  | .many p, a, b, n, ha, hb, mv, h => by
    simp only [lay, List.mem_cons] at h
    simp only [fr]
    rcases h with h | h | h
    · subst h; exact ⟨by show a < _; omega, by show n < _; omega⟩
    · subst h; exact ⟨by show n < _; omega, by show b < _; omega⟩
    · have := layB p n n (n + 1) (by omega) (by omega) mv h
      omega
  | .stay, a, b, n, ha, hb, mv, h => by simp only [lay, List.mem_singleton] at h; subst h; exact ⟨by show a < _; omega, by show b < _; omega⟩
  | .step s w, a, b, n, ha, hb, mv, h => by simp only [lay, List.mem_singleton] at h; subst h; exact ⟨by show a < _; omega, by show b < _; omega⟩
  | .att m, a, b, n, ha, hb, mv, h => by simp only [lay, List.mem_singleton] at h; subst h; exact ⟨by show a < _; omega, by show b < _; omega⟩
  | .off m, a, b, n, ha, hb, mv, h => by simp only [lay, List.mem_singleton] at h; subst h; exact ⟨by show a < _; omega, by show b < _; omega⟩
theorem layAnyB : ∀ (ps : List Pat) (a b n : Nat), a < n → b < n → ∀ mv ∈ layAny ps a b n, mv.1 < n + frs ps ∧ mv.2.2 < n + frs ps
  | [], _, _, _, _, _, _, h => by simp [layAny] at h
  | p :: ps, a, b, n, ha, hb, mv, h => by
    simp only [layAny, List.mem_append] at h
    simp only [frs]
    rcases h with h | h
    · have := layB p a b n ha hb mv h; omega
    · have := layAnyB ps a b (n + fr p) (by omega) (by omega) mv h; omega
theorem layRowB : ∀ (ps : List Pat) (a b n : Nat), a < n → b < n → ∀ mv ∈ layRow ps a b n, mv.1 < n + (frs ps + (ps.length - 1)) ∧ mv.2.2 < n + (frs ps + (ps.length - 1))
  | [], a, b, n, ha, hb, mv, h => by simp only [layRow, List.mem_singleton] at h; subst h; exact ⟨by show a < _; omega, by show b < _; omega⟩
  | [p], a, b, n, ha, hb, mv, h => by
    simp only [layRow] at h
    have := layB p a b n ha hb mv h
    simp only [frs, List.length_cons, List.length_nil]; omega
  | p :: q :: r, a, b, n, ha, hb, mv, h => by
    rw [layRow, List.mem_append] at h
    rw [frs, List.length_cons, List.length_cons]
    rcases h with h | h
    · have := layB p a n (n + 1) (by omega) (by omega) mv h; omega
    · have := layRowB (q :: r) n b (n + 1 + fr p) (by omega) (by omega) mv h
      rw [List.length_cons] at this; omega
end
theorem cons_leaf {L : Ln} {G0 : Nat → Nat → Prop} {l : Pat} {a b n : Nat}
    (h1 : ∀ i, holdsAt l (L.mks i) = true → G0 b i → G0 a i) (h2 : ∀ i sd w, L.steps[i]? = some (sd, w) → stepBy l sd w = true → G0 b (i + 1) → G0 a i) :
    ∃ G : Nat → Nat → Prop, (∀ q, q < n → G q = G0 q) ∧ Cons L G [(a, l, b)] :=
  ⟨G0, fun _ _ => rfl, fun q l' q1 m => by
    have e := List.mem_singleton.mp m
    cases e
    exact ⟨h1, h2⟩⟩
mutual
theorem snd (L : Ln) : ∀ (p : Pat) (a b n : Nat) (G0 : Nat → Nat → Prop), a < n → b < n → (∀ i j, Fit L p i j → G0 b j → G0 a i) →
    ∃ G : Nat → Nat → Prop, (∀ q, q < n → G q = G0 q) ∧ Cons L G (lay p a b n)
  | .stay, a, b, n, G0, ha, hb, h => by
    simp only [lay]
    refine cons_leaf (fun i _ g => h i i (by simp [Fit]) g) fun i sd w _ e _ => by simp [stepBy] at e
  | .step s w, a, b, n, G0, ha, hb, h => by
    simp only [lay]
    refine cons_leaf (fun i e _ => by simp [holdsAt] at e) fun i sd w' e sb g => h i (i + 1) (by rw [Fit]; exact ⟨rfl, sd, w', e, sb⟩) g
  | .att m, a, b, n, G0, ha, hb, h => by
    simp only [lay]
    refine cons_leaf (fun i e g => h i i (by rw [Fit]; exact ⟨rfl, e⟩) g) fun i sd w _ e _ => by simp [stepBy] at e
  | .off m, a, b, n, G0, ha, hb, h => by
    simp only [lay]
    refine cons_leaf (fun i e g => h i i (by rw [Fit]; exact ⟨rfl, by simpa [holdsAt] using e⟩) g) fun i sd w _ e _ => by simp [stepBy] at e
  | .thn ps, a, b, n, G0, ha, hb, h => by
    simp only [lay]
    exact sndRow L ps a b n G0 ha hb fun i j f g => h i j (by simpa [Fit] using f) g
  | .eit ps, a, b, n, G0, ha, hb, h => by
    simp only [lay]
    exact sndAny L ps a b n G0 ha hb fun i j f g => h i j (by simpa [Fit] using f) g
  | .many p, a, b, n, G0, ha, hb, h => by
    let M : Nat → Prop := fun i => ∃ j, Star (Fit L p) i j ∧ G0 b j
    obtain ⟨G, g1, g2⟩ := snd L p n n (n + 1) (fun q => if q = n then M else G0 q) (by omega) (by omega) (fun i j f g => by
      rw [if_pos rfl] at g ⊢
      obtain ⟨k, s, g⟩ := g
      exact ⟨k, .more f s, g⟩)
    have gn : G n = M := by rw [g1 n (by omega), if_pos rfl]
    have ga : G a = G0 a := by rw [g1 a (by omega), if_neg (by omega)]
    have gb : G b = G0 b := by rw [g1 b (by omega), if_neg (by omega)]
    refine ⟨G, fun q hq => by rw [g1 q (by omega), if_neg (by omega)], fun q l q1 m => ?_⟩
    simp only [lay, List.mem_cons] at m
    rcases m with m | m | m
    · cases m
      rw [ga, gn]
      exact ⟨fun i _ ⟨j, s, g⟩ => h i j (by rw [Fit]; exact s) g, fun i sd w _ e _ => by simp [stepBy] at e⟩
    · cases m
      rw [gb, gn]
      exact ⟨fun i _ g => ⟨i, .refl i, g⟩, fun i sd w _ e _ => by simp [stepBy] at e⟩
    · exact g2 q l q1 m
theorem sndAny (L : Ln) : ∀ (ps : List Pat) (a b n : Nat) (G0 : Nat → Nat → Prop), a < n → b < n → (∀ i j, FitAny L ps i j → G0 b j → G0 a i) →
    ∃ G : Nat → Nat → Prop, (∀ q, q < n → G q = G0 q) ∧ Cons L G (layAny ps a b n)
  | [], a, b, n, G0, _, _, _ => ⟨G0, fun _ _ => rfl, by simp only [layAny]; exact Cons.nil _ _⟩
  | p :: ps, a, b, n, G0, ha, hb, h => by
    obtain ⟨G1, e1, c1⟩ := snd L p a b n G0 ha hb fun i j f g => h i j (by rw [FitAny]; exact .inl f) g
    obtain ⟨G2, e2, c2⟩ := sndAny L ps a b (n + fr p) G1 (by omega) (by omega) fun i j f g => by
      rw [e1 a ha]
      rw [e1 b hb] at g
      exact h i j (by rw [FitAny]; exact .inr f) g
    refine ⟨G2, fun q hq => by rw [e2 q (by omega), e1 q hq], ?_⟩
    simp only [layAny]
    exact (c1.congr (layB p a b n ha hb) e2).append c2
theorem sndRow (L : Ln) : ∀ (ps : List Pat) (a b n : Nat) (G0 : Nat → Nat → Prop), a < n → b < n → (∀ i j, FitSeq L ps i j → G0 b j → G0 a i) →
    ∃ G : Nat → Nat → Prop, (∀ q, q < n → G q = G0 q) ∧ Cons L G (layRow ps a b n)
  | [], a, b, n, G0, ha, hb, h => by
    simp only [layRow]
    refine cons_leaf (fun i _ g => h i i (by simp [FitSeq]) g) fun i sd w _ e _ => by simp [stepBy] at e
  | [p], a, b, n, G0, ha, hb, h => by
    simp only [layRow]
    exact snd L p a b n G0 ha hb fun i j f g => h i j (by simp only [FitSeq]; exact ⟨j, f, rfl⟩) g
  | p :: q :: r, a, b, n, G0, ha, hb, h => by
    let A1 : Nat → Prop := fun i => ∃ j, FitSeq L (q :: r) i j ∧ G0 b j
    obtain ⟨G1, e1, c1⟩ := snd L p a n (n + 1) (fun q => if q = n then A1 else G0 q) (by omega) (by omega) (fun i j f g => by
      rw [if_pos rfl] at g
      rw [if_neg (by omega)]
      obtain ⟨k, s, g⟩ := g
      exact h i k (by rw [FitSeq]; exact ⟨j, f, s⟩) g)
    have gn : G1 n = A1 := by rw [e1 n (by omega), if_pos rfl]
    have gb : G1 b = G0 b := by rw [e1 b (by omega), if_neg (by omega)]
    obtain ⟨G2, e2, c2⟩ := sndRow L (q :: r) n b (n + 1 + fr p) G1 (by omega) (by omega) fun i j f g => by
      rw [gn]
      rw [gb] at g
      exact ⟨j, f, g⟩
    refine ⟨G2, fun q hq => by rw [e2 q (by omega), e1 q (by omega), if_neg (by omega)], ?_⟩
    rw [layRow]
    exact (c1.congr (layB p a n (n + 1) (by omega) (by omega)) e2).append c2
end
/-- the machine of a pattern: begin 0, end 1 -/
def machine (p : Pat) : List Move := lay p 0 1 2
theorem exact_ (L : Ln) (p : Pat) (i j : Nat) : Path L (machine p) 0 i 1 j ↔ Fit L p i j := by
  constructor
  · intro h
    obtain ⟨G, e, c⟩ := snd L p 0 1 2 (fun q k => if q = 0 then Fit L p k j else k = j) (by omega) (by omega) (fun i' j' f g => by
      simp only [Nat.one_ne_zero, if_false] at g
      subst g
      simpa using f)
    have := c.path h
    rw [e 0 (by omega), e 1 (by omega)] at this
    simpa using this
  · exact comp L _ p 0 1 2 i j fun _ h => h
end Pk
namespace Pk
set_option autoImplicit false
open PySem (Str)
inductive Eps (ms : List Move) (mk : Str → Bool) : Nat → Nat → Prop where
  | refl (q : Nat) : Eps ms mk q q
  | more {q q1 q' : Nat} {l : Pat} : (q, l, q1) ∈ ms → holdsAt l mk = true → Eps ms mk q1 q' → Eps ms mk q q'
theorem Eps.trans {ms : List Move} {mk : Str → Bool} {a b c : Nat} (h : Eps ms mk a b) (k : Eps ms mk b c) : Eps ms mk a c := by
  induction h with
  | refl => exact k
  | more m e _ ih => exact .more m e (ih k)
def Come (ms : List Move) (mk : Str → Bool) (S : Nat → Prop) (q : Nat) : Prop := ∃ p, S p ∧ Eps ms mk p q
def Stp (ms : List Move) (S : Nat → Prop) (sd w : Str) (q : Nat) : Prop := ∃ p l, S p ∧ (p, l, q) ∈ ms ∧ stepBy l sd w = true
theorem Come.mono {ms : List Move} {mk : Str → Bool} {S T : Nat → Prop} (h : ∀ q, S q → T q) {q : Nat} (c : Come ms mk S q) : Come ms mk T q := let ⟨p, s, e⟩ := c; ⟨p, h p s, e⟩
theorem Stp.mono {ms : List Move} {sd w : Str} {S T : Nat → Prop} (h : ∀ q, S q → T q) {q : Nat} (c : Stp ms S sd w q) : Stp ms T sd w q := let ⟨p, l, s, e⟩ := c; ⟨p, l, h p s, e⟩
def ReachL (L : Ln) (ms : List Move) : Nat → Nat → Prop
  | 0 => fun q => q = 0
  | k + 1 => fun q => ∃ sd w, L.steps[k]? = some (sd, w) ∧ Stp ms (Come ms (L.mks k) (ReachL L ms k)) sd w q
theorem reach_path {L : Ln} {ms : List Move} {q i q' j : Nat} (h : Path L ms q i q' j) : Come ms (L.mks i) (ReachL L ms i) q → Come ms (L.mks j) (ReachL L ms j) q' := by
  induction h with
  | refl => exact id
  | eps m e _ ih => exact fun ⟨p, r, x⟩ => ih ⟨p, r, x.trans (.more m e (.refl _))⟩
  | step m s e _ ih => exact fun c => ih ⟨_, ⟨_, _, s, _, _, c, m, e⟩, .refl _⟩
theorem path_eps {L : Ln} {ms : List Move} {i a b : Nat} (h : Eps ms (L.mks i) a b) : Path L ms a i b i := by
  induction h with
  | refl => exact .refl _ _
  | more m e _ ih => exact .eps m e ih
theorem path_reach {L : Ln} {ms : List Move} : ∀ (k q : Nat), ReachL L ms k q → Path L ms 0 0 q k
  | 0, q, h => by
    have e : q = 0 := h
    subst e
    exact .refl _ _
  | k + 1, q, h => by
    obtain ⟨sd, w, s, p, l, ⟨p0, r, e⟩, m, sb⟩ := h
    exact ((path_reach k p0 r).trans (path_eps e)).trans (.step m s sb (.refl _ _))
theorem path_iff (L : Ln) (ms : List Move) (q k : Nat) : Path L ms 0 0 q k ↔ Come ms (L.mks k) (ReachL L ms k) q :=
  ⟨fun h => reach_path h ⟨0, rfl, .refl _⟩, fun ⟨p, r, e⟩ => (path_reach k p r).trans (path_eps e)⟩
theorem fit_iff (L : Ln) (p : Pat) (k : Nat) : Fit L p 0 k ↔ Come (machine p) (L.mks k) (ReachL L (machine p) k) 1 := by
  rw [← path_iff, exact_]

/-! trails -/
def mkOf (ms : List Str) (m : Str) : Bool := decide (m ∈ ms)
abbrev Tr := List (List Str × Str × Str)
def lineOf (t : Tr) (m : List Str) : Ln := ⟨fun k => mkOf ((t.map (·.1) ++ [m]).getD k []), t.map (·.2)⟩
def reachT (ms : List Move) (t : Tr) : Nat → Prop := t.foldl (fun S e => Stp ms (Come ms (mkOf e.1) S) e.2.1 e.2.2) (fun q => q = 0)
theorem reachT_snoc (ms : List Move) (t : Tr) (e : List Str × Str × Str) : reachT ms (t ++ [e]) = Stp ms (Come ms (mkOf e.1) (reachT ms t)) e.2.1 e.2.2 := by
  simp [reachT]
theorem reach_line (ms : List Move) (t : Tr) (m : List Str) : ∀ k, k ≤ t.length → ReachL (lineOf t m) ms k = reachT ms (t.take k)
  | 0, _ => by simp [ReachL, reachT]
  | k + 1, h => by
    have ih := reach_line ms t m k (by omega)
    have hk : k < t.length := by omega
    have e : t[k]? = some t[k] := List.getElem?_eq_getElem hk
    rw [List.take_add_one, e, Option.toList_some, reachT_snoc]
    funext q
    apply propext
    have e1 : (lineOf t m).steps[k]? = some t[k].2 := by simp [lineOf, e]
    have e2 : (lineOf t m).mks k = mkOf t[k].1 := by
      simp only [lineOf]
      rw [List.getD_eq_getElem?_getD, List.getElem?_append_left (by simpa using hk), List.getElem?_map, e]
      rfl
    show (∃ sd w, (lineOf t m).steps[k]? = some (sd, w) ∧ Stp ms (Come ms ((lineOf t m).mks k) (ReachL (lineOf t m) ms k)) sd w q) ↔ _
    rw [e1, e2, ih]
    constructor
    · rintro ⟨sd, w, h1, h2⟩
      have h3 := Option.some.inj h1
      rw [h3]
      exact h2
    · exact fun h2 => ⟨_, _, rfl, h2⟩
theorem fit_line (p : Pat) (t : Tr) (m : List Str) : Fit (lineOf t m) p 0 t.length ↔ Come (machine p) (mkOf m) (reachT (machine p) t) 1 := by
  rw [fit_iff, reach_line _ _ _ _ (Nat.le_refl _), List.take_length]
  have e2 : (lineOf t m).mks t.length = mkOf m := by
    simp [lineOf]
  rw [e2]

/-! within: yes -/
abbrev PairS := Nat × List Nat
structure Yes (ms1 ms2 : List Move) (sets : List (List Str)) (steps : List (Str × Str)) (F : List PairS) : Prop where
  beg : (0, [0]) ∈ F
  ends : ∀ p S, (p, S) ∈ F → ∀ m ∈ sets, Come ms1 (mkOf m) (fun q => q = p) 1 → Come ms2 (mkOf m) (fun q => q ∈ S) 1
  on : ∀ p S, (p, S) ∈ F → ∀ m ∈ sets, ∀ sd w, (sd, w) ∈ steps → ∀ p', Stp ms1 (Come ms1 (mkOf m) (fun q => q = p)) sd w p' →
    ∃ S', (p', S') ∈ F ∧ ∀ q ∈ S', Stp ms2 (Come ms2 (mkOf m) (fun q => q ∈ S)) sd w q
/-- a line of the asked marks and steps, the steps up to a word that no leaf names -/
structure Asked (ms1 ms2 : List Move) (sets : List (List Str)) (steps : List (Str × Str)) (L : Ln) : Prop where
  mks : ∀ k, k ≤ L.steps.length → ∃ m ∈ sets, L.mks k = mkOf m
  stp : ∀ (k : Nat) (sd w : Str), L.steps[k]? = some (sd, w) → ∃ w', (sd, w') ∈ steps ∧ (∀ mv ∈ ms1, stepBy mv.2.1 sd w = stepBy mv.2.1 sd w') ∧ ∀ mv ∈ ms2, stepBy mv.2.1 sd w = stepBy mv.2.1 sd w'
theorem stp_word {ms : List Move} {S : Nat → Prop} {sd w w' : Str} {q : Nat} (h : ∀ mv ∈ ms, stepBy mv.2.1 sd w = stepBy mv.2.1 sd w') (x : Stp ms S sd w q) : Stp ms S sd w' q := by
  obtain ⟨p, l, s, m, e⟩ := x
  exact ⟨p, l, s, m, by rw [← h _ m]; exact e⟩
theorem yes_line {ms1 ms2 : List Move} {sets : List (List Str)} {steps : List (Str × Str)} {F : List PairS} {L : Ln} (y : Yes ms1 ms2 sets steps F) (a : Asked ms1 ms2 sets steps L)
    (h : Come ms1 (L.mks L.steps.length) (ReachL L ms1 L.steps.length) 1) : Come ms2 (L.mks L.steps.length) (ReachL L ms2 L.steps.length) 1 := by
  have key : ∀ k, k ≤ L.steps.length → ∀ p, ReachL L ms1 k p → ∃ S, (p, S) ∈ F ∧ ∀ q ∈ S, ReachL L ms2 k q := by
    intro k
    induction k with
    | zero =>
      intro _ p r
      have e : p = 0 := r
      subst e
      exact ⟨[0], y.beg, fun q hq => List.mem_singleton.mp hq⟩
    | succ k ih =>
      intro hk p r
      obtain ⟨sd, w, s, p1, l, ⟨p0, r0, e0⟩, mv, sb⟩ := r
      obtain ⟨S0, f0, t0⟩ := ih (by omega) p0 r0
      obtain ⟨m, hm, em⟩ := a.mks k (by omega)
      obtain ⟨w', hw, w1, w2⟩ := a.stp k sd w s
      obtain ⟨S', f', t'⟩ := y.on p0 S0 f0 m hm sd w' hw p (stp_word w1 ⟨p1, l, ⟨p0, rfl, em ▸ e0⟩, mv, sb⟩)
      refine ⟨S', f', fun q hq => ⟨sd, w, s, stp_word (fun mv h => (w2 mv h).symm) ?_⟩⟩
      rw [em]
      exact (t' q hq).mono fun q' c => c.mono t0
  obtain ⟨p0, r0, e0⟩ := h
  obtain ⟨S, f, t⟩ := key _ (Nat.le_refl _) p0 r0
  obtain ⟨m, hm, em⟩ := a.mks _ (Nat.le_refl _)
  rw [em] at e0 ⊢
  exact (y.ends p0 S f m hm ⟨p0, rfl, e0⟩).mono t

/-! the walk's pairs -/
abbrev Link := Option (Nat × List Str × Str × Str)
inductive TrailOf (cs : List Link) : Nat → Tr → Prop where
  | start : cs[0]? = some none → TrailOf cs 0 []
  | more {k j : Nat} {m : List Str} {sd w : Str} {t : Tr} : cs[k]? = some (some (j, m, sd, w)) → TrailOf cs j t → TrailOf cs k (t ++ [(m, sd, w)])
structure Linked (ms1 ms2 : List Move) (sets : List (List Str)) (steps : List (Str × Str)) (F : List PairS) (cs : List Link) (k : Nat) (p : Nat) (S : List Nat) (j : Nat) (m : List Str) (sd w : Str) (p' : Nat) (S' : List Nat) : Prop where
  lt : j < k
  cs : cs[k]? = some (some (j, m, sd, w))
  hm : m ∈ sets
  st : (sd, w) ∈ steps
  fj : F[j]? = some (p', S')
  one : Stp ms1 (Come ms1 (mkOf m) (fun q => q = p')) sd w p
  inc : S.Pairwise (· < ·)
  two : ∀ q, q ∈ S ↔ Stp ms2 (Come ms2 (mkOf m) (fun q => q ∈ S')) sd w q
structure WInv (ms1 ms2 : List Move) (sets : List (List Str)) (steps : List (Str × Str)) (F : List PairS) (cs : List Link) : Prop where
  len : F.length = cs.length
  head : F[0]? = some (0, [0])
  headc : cs[0]? = some none
  nodup : F.Nodup
  rest : ∀ (k p : Nat) (S : List Nat), 0 < k → F[k]? = some (p, S) → ∃ j m sd w p' S', Linked ms1 ms2 sets steps F cs k p S j m sd w p' S'
section
variable {ms1 ms2 : List Move} {sets : List (List Str)} {steps : List (Str × Str)} {F : List PairS} {cs : List Link}
theorem WInv.first : WInv ms1 ms2 sets steps [(0, [0])] [none] where
  len := rfl
  head := rfl
  headc := rfl
  nodup := by simp
  rest := fun k p S hk h => by
    have := (List.getElem?_eq_some_iff.mp h).1
    simp at this; omega
theorem get_snoc {α : Type} {l : List α} {x y : α} {k : Nat} (h : l[k]? = some y) : (l ++ [x])[k]? = some y := by
  rw [List.getElem?_append_left (List.getElem?_eq_some_iff.mp h).1]; exact h
theorem WInv.snoc (W : WInv ms1 ms2 sets steps F cs) {p : Nat} {S : List Nat} {j : Nat} {m : List Str} {sd w : Str} {p' : Nat} {S' : List Nat} (new : (p, S) ∉ F) (hm : m ∈ sets) (hs : (sd, w) ∈ steps)
    (fj : F[j]? = some (p', S')) (one : Stp ms1 (Come ms1 (mkOf m) (fun q => q = p')) sd w p) (inc : S.Pairwise (· < ·)) (two : ∀ q, q ∈ S ↔ Stp ms2 (Come ms2 (mkOf m) (fun q => q ∈ S')) sd w q) :
    WInv ms1 ms2 sets steps (F ++ [(p, S)]) (cs ++ [some (j, m, sd, w)]) where
  len := by simp [W.len]
  head := get_snoc W.head
  headc := get_snoc W.headc
  nodup := by
    refine List.nodup_append.mpr ⟨W.nodup, by simp, ?_⟩
    intro a ha b hb e
    rw [List.mem_singleton.mp hb] at e
    exact new (e ▸ ha)
  rest := fun k q T hk h => by
    by_cases hl : k < F.length
    · rw [List.getElem?_append_left hl] at h
      obtain ⟨j', m', sd', w', p'', S'', x⟩ := W.rest k q T hk h
      exact ⟨j', m', sd', w', p'', S'', ⟨x.lt, get_snoc x.cs, x.hm, x.st, get_snoc x.fj, x.one, x.inc, x.two⟩⟩
    · have hk2 := (List.getElem?_eq_some_iff.mp h).1
      rw [List.length_append, List.length_singleton] at hk2
      have ek : k = F.length := by omega
      subst ek
      rw [List.getElem?_append_right (Nat.le_refl _), Nat.sub_self] at h
      cases h
      refine ⟨j, m, sd, w, p', S', ⟨(List.getElem?_eq_some_iff.mp fj).1, ?_, hm, hs, get_snoc fj, one, inc, two⟩⟩
      rw [W.len, List.getElem?_append_right (Nat.le_refl _), Nat.sub_self] <;> rfl
theorem WInv.trail (W : WInv ms1 ms2 sets steps F cs) : ∀ (n k : Nat), k < n → ∀ p S, F[k]? = some (p, S) →
    ∃ t, TrailOf cs k t ∧ reachT ms1 t p ∧ (∀ q, q ∈ S ↔ reachT ms2 t q) ∧ t.length ≤ k ∧ ∀ e ∈ t, e.1 ∈ sets ∧ e.2 ∈ steps
  | 0, k, h, _, _, _ => absurd h (Nat.not_lt_zero _)
  | n + 1, k, hk, p, S, h => by
    by_cases h0 : k = 0
    · subst h0
      rw [W.head] at h
      cases h
      exact ⟨[], .start W.headc, rfl, fun q => List.mem_singleton, Nat.le_refl _, fun e he => by cases he⟩
    · obtain ⟨j, m, sd, w, p', S', x⟩ := W.rest k p S (by omega) h
      obtain ⟨t, a, b, c, d, e⟩ := W.trail n j (by have := x.lt; omega) p' S' x.fj
      refine ⟨t ++ [(m, sd, w)], .more x.cs a, ?_, fun q => ?_, by rw [List.length_append, List.length_singleton]; have := x.lt; omega, fun y hy => ?_⟩
      · rw [reachT_snoc]
        exact x.one.mono fun q hq => hq.mono fun q' e' => by rw [e']; exact b
      · rw [reachT_snoc, x.two q]
        have e1 : (fun q => q ∈ S') = reachT ms2 t := funext fun q => propext (c q)
        rw [e1]
      · rcases List.mem_append.mp hy with hy | hy
        · exact e y hy
        · rw [List.mem_singleton.mp hy]
          exact ⟨x.hm, x.st⟩
theorem TrailOf.one {k : Nat} {t t' : Tr} (h : TrailOf cs k t) (h' : TrailOf cs k t') : t = t' := by
  induction h generalizing t' with
  | start e =>
    cases h' with
    | start => rfl
    | more e' _ => rw [e] at e'; cases e'
  | more e _ ih =>
    cases h' with
    | start e' => rw [e'] at e; cases e
    | more e' h2 =>
      rw [e] at e'
      cases e'
      rw [ih h2]
end
end Pk
namespace Pk
set_option autoImplicit false
open PySem (Str)
/-! texts in order, each once -/
def sle (a b : Str) : Bool := decide (a.cps.toList ≤ b.cps.toList)
def slt (a b : Str) : Prop := sle a b = true ∧ a ≠ b
theorem sle_trans (a b c : Str) (h : sle a b = true) (k : sle b c = true) : sle a c = true := by
  unfold sle at *
  simp only [decide_eq_true_eq] at *
  exact List.le_trans h k
theorem sle_total (a b : Str) : (sle a b || sle b a) = true := by
  unfold sle
  rw [Bool.or_eq_true, decide_eq_true_eq, decide_eq_true_eq]
  exact List.le_total _ _
theorem sle_anti (a b : Str) (h : sle a b = true) (k : sle b a = true) : a = b := by
  unfold sle at *
  simp only [decide_eq_true_eq] at *
  have e := List.le_antisymm h k
  cases a; cases b
  simp only [Str.mk.injEq]
  exact Array.toList_inj.mp e
def ddp : List Str → List Str
  | [] => []
  | x :: xs => if x ∈ ddp xs then ddp xs else x :: ddp xs
theorem mem_ddp {x : Str} : ∀ {xs : List Str}, x ∈ ddp xs ↔ x ∈ xs
  | [] => by simp [ddp]
  | y :: xs => by
    have ih : x ∈ ddp xs ↔ x ∈ xs := mem_ddp
    unfold ddp
    split
    · rename_i h
      rw [ih, List.mem_cons]
      constructor
      · exact .inr
      · rintro (e | m)
        · subst e; exact mem_ddp.mp h
        · exact m
    · rw [List.mem_cons, List.mem_cons, ih]
theorem nodup_ddp : ∀ xs : List Str, (ddp xs).Nodup
  | [] => List.nodup_nil
  | y :: xs => by
    unfold ddp
    split
    · exact nodup_ddp xs
    · rename_i h
      exact List.nodup_cons.mpr ⟨h, nodup_ddp xs⟩
def sset (xs : List Str) : List Str := (ddp xs).mergeSort sle
theorem mem_sset {x : Str} {xs : List Str} : x ∈ sset xs ↔ x ∈ xs := by
  unfold sset
  rw [(List.mergeSort_perm _ _).mem_iff, mem_ddp]
theorem nodup_sset (xs : List Str) : (sset xs).Nodup := (List.mergeSort_perm _ _).nodup_iff.mpr (nodup_ddp xs)
theorem pw_sset (xs : List Str) : (sset xs).Pairwise fun a b => sle a b = true := List.pairwise_mergeSort sle_trans sle_total _
theorem sset_of {ys xs : List Str} (nd : ys.Nodup) (pw : ys.Pairwise fun a b => sle a b = true) (m : ∀ x, x ∈ ys ↔ x ∈ xs) : ys = sset xs := by
  refine List.Perm.eq_of_pairwise (fun a b _ _ => sle_anti a b) pw (pw_sset xs) ?_
  exact (List.perm_ext_iff_of_nodup nd (nodup_sset xs)).mpr fun x => (m x).trans mem_sset.symm
theorem sset_congr {xs ys : List Str} (m : ∀ x, x ∈ xs ↔ x ∈ ys) : sset xs = sset ys := sset_of (nodup_sset xs) (pw_sset xs) fun x => mem_sset.trans (m x)
theorem sset_sset (xs : List Str) : sset (sset xs) = sset xs := sset_congr fun _ => mem_sset
theorem sort_nodup {zs xs : List Str} (nd : zs.Nodup) (m : ∀ x, x ∈ zs ↔ x ∈ xs) : zs.mergeSort sle = sset xs :=
  sset_of ((List.mergeSort_perm _ _).nodup_iff.mpr nd) (List.pairwise_mergeSort sle_trans sle_total _) fun x => ((List.mergeSort_perm _ _).mem_iff).trans (m x)
theorem sset_len (xs : List Str) : (sset xs).length ≤ xs.length := (nodup_sset xs).length_le_of_subset fun x m => mem_sset.mp m
theorem sset_id {xs : List Str} (nd : xs.Nodup) (pw : xs.Pairwise fun a b => sle a b = true) : sset xs = xs := (sset_of nd pw fun _ => Iff.rfl).symm
end Pk
namespace Pk
set_option autoImplicit false
set_option maxRecDepth 100000
open PySem (Str)
/-! sizes, parts, words, marks -/
mutual
def sz : Pat → Nat
  | .thn ps => szs ps + 1
  | .eit ps => szs ps + 1
  | .many p => sz p + 1
  | _ => 1
def szs : List Pat → Nat
  | [] => 0
  | p :: ps => sz p + szs ps
end
def parts : Pat → List Pat
  | .thn ps => ps
  | .eit ps => ps
  | .many p => [p]
  | _ => []
theorem sz_parts (p : Pat) : sz p = 1 + szs (parts p) := by
  cases p <;> simp [sz, szs, parts] <;> omega
theorem sz_pos (p : Pat) : 1 ≤ sz p := by rw [sz_parts]; omega
theorem szs_append (ps qs : List Pat) : szs (ps ++ qs) = szs ps + szs qs := by
  induction ps with
  | nil => simp [szs]
  | cons p ps ih => simp only [List.cons_append, szs, ih]; omega
theorem szs_len (ps : List Pat) : ps.length ≤ szs ps := by
  induction ps with
  | nil => simp [szs]
  | cons p ps ih => simp only [List.length_cons, szs]; have := sz_pos p; omega
theorem szs_mem {p : Pat} {ps : List Pat} (h : p ∈ ps) : sz p ≤ szs ps := by
  induction ps with
  | nil => cases h
  | cons q ps ih =>
    simp only [szs]
    rcases List.mem_cons.mp h with rfl | h
    · omega
    · have := ih h; omega
inductive Sub (p : Pat) : Pat → Prop where
  | refl : Sub p p
  | part {q r : Pat} : Sub p q → r ∈ parts q → Sub p r
theorem Sub.trans {p q r : Pat} (h : Sub p q) (k : Sub q r) : Sub p r := by
  induction k with
  | refl => exact h
  | part _ m ih => exact .part ih m
theorem Sub.inv {p r : Pat} (h : Sub p r) : r = p ∨ ∃ q, q ∈ parts p ∧ Sub q r := by
  induction h with
  | refl => exact .inl rfl
  | part _ m ih =>
    rcases ih with rfl | ⟨q, mq, s⟩
    · exact .inr ⟨_, m, .refl⟩
    · exact .inr ⟨q, mq, .part s m⟩
theorem sub_iff {p r : Pat} : Sub p r ↔ r = p ∨ ∃ q, q ∈ parts p ∧ Sub q r :=
  ⟨Sub.inv, fun h => h.elim (fun e => e ▸ .refl) fun ⟨q, m, s⟩ => (Sub.part .refl m).trans s⟩
mutual
/-- the words that the steps name -/
def wds : Pat → List Str
  | .step _ w => if w = star then [] else [w]
  | .thn ps => wdss ps
  | .eit ps => wdss ps
  | .many p => wds p
  | _ => []
def wdss : List Pat → List Str
  | [] => []
  | p :: ps => wds p ++ wdss ps
end
mutual
def mks : Pat → List Str
  | .att m => [m]
  | .off m => [m]
  | .thn ps => mkss ps
  | .eit ps => mkss ps
  | .many p => mks p
  | _ => []
def mkss : List Pat → List Str
  | [] => []
  | p :: ps => mks p ++ mkss ps
end
theorem mem_wdss {w : Str} {ps : List Pat} : w ∈ wdss ps ↔ ∃ p ∈ ps, w ∈ wds p := by
  induction ps with
  | nil => simp [wdss]
  | cons p ps ih => simp [wdss, ih]
theorem mem_mkss {w : Str} {ps : List Pat} : w ∈ mkss ps ↔ ∃ p ∈ ps, w ∈ mks p := by
  induction ps with
  | nil => simp [mkss]
  | cons p ps ih => simp [mkss, ih]
theorem wds_parts {w : Str} (p : Pat) : w ∈ wds p ↔ (w ≠ star ∧ ∃ s, p = .step s w) ∨ ∃ q ∈ parts p, w ∈ wds q := by
  cases p with
  | step s w' =>
    simp only [wds, parts]
    by_cases h : w' = star
    · rw [if_pos h]
      constructor
      · intro h; cases h
      · rintro (⟨n, t, e⟩ | ⟨q, m, _⟩)
        · cases e; exact absurd h n
        · cases m
    · rw [if_neg h]
      constructor
      · intro m
        rw [List.mem_singleton.mp m]
        exact .inl ⟨h, s, rfl⟩
      · rintro (⟨n, t, e⟩ | ⟨q, m, _⟩)
        · cases e; simp
        · cases m
  | thn ps => simp [wds, parts, mem_wdss]
  | eit ps => simp [wds, parts, mem_wdss]
  | many p => simp [wds, parts]
  | _ => simp [wds, parts]
theorem mks_parts {w : Str} (p : Pat) : w ∈ mks p ↔ (p = .att w ∨ p = .off w) ∨ ∃ q ∈ parts p, w ∈ mks q := by
  cases p with
  | thn ps => simp [mks, parts, mem_mkss]
  | eit ps => simp [mks, parts, mem_mkss]
  | many p => simp [mks, parts]
  | _ => simp [mks, parts, eq_comm]
theorem parts_lt {p q : Pat} (h : q ∈ parts p) : sz q < sz p := by
  rw [sz_parts p]
  have := szs_mem h
  omega
theorem wds_sub {w : Str} : ∀ (n : Nat) (p : Pat), sz p ≤ n → (w ∈ wds p ↔ w ≠ star ∧ ∃ s, Sub p (.step s w))
  | 0, p, h => by have := sz_pos p; omega
  | n + 1, p, h => by
    rw [wds_parts]
    constructor
    · rintro (⟨a, s, rfl⟩ | ⟨q, m, a⟩)
      · exact ⟨a, s, .refl⟩
      · obtain ⟨a, s, x⟩ := (wds_sub n q (by have := parts_lt m; omega)).mp a
        exact ⟨a, s, sub_iff.mpr (.inr ⟨q, m, x⟩)⟩
    · rintro ⟨a, s, x⟩
      rcases x.inv with e | ⟨q, m, x⟩
      · exact .inl ⟨a, s, e.symm⟩
      · exact .inr ⟨q, m, (wds_sub n q (by have := parts_lt m; omega)).mpr ⟨a, s, x⟩⟩
theorem mem_wds {w : Str} {p : Pat} : w ∈ wds p ↔ w ≠ star ∧ ∃ s, Sub p (.step s w) := wds_sub _ p (Nat.le_refl _)
theorem mks_sub {w : Str} : ∀ (n : Nat) (p : Pat), sz p ≤ n → (w ∈ mks p ↔ Sub p (.att w) ∨ Sub p (.off w))
  | 0, p, h => by have := sz_pos p; omega
  | n + 1, p, h => by
    rw [mks_parts]
    constructor
    · rintro ((rfl | rfl) | ⟨q, m, a⟩)
      · exact .inl .refl
      · exact .inr .refl
      · rcases (mks_sub n q (by have := parts_lt m; omega)).mp a with x | x
        · exact .inl (sub_iff.mpr (.inr ⟨q, m, x⟩))
        · exact .inr (sub_iff.mpr (.inr ⟨q, m, x⟩))
    · rintro (x | x)
      · rcases x.inv with e | ⟨q, m, x⟩
        · exact .inl (.inl e.symm)
        · exact .inr ⟨q, m, (mks_sub n q (by have := parts_lt m; omega)).mpr (.inl x)⟩
      · rcases x.inv with e | ⟨q, m, x⟩
        · exact .inl (.inr e.symm)
        · exact .inr ⟨q, m, (mks_sub n q (by have := parts_lt m; omega)).mpr (.inr x)⟩
theorem mem_mks {w : Str} {p : Pat} : w ∈ mks p ↔ Sub p (.att w) ∨ Sub p (.off w) := mks_sub _ p (Nat.le_refl _)
/-! fresh stands are fewer than the nodes -/
mutual
theorem fr_sz : ∀ p : Pat, fr p + 1 ≤ sz p
  | .stay => by simp [fr, sz]
  | .step _ _ => by simp [fr, sz]
  | .att _ => by simp [fr, sz]
  | .off _ => by simp [fr, sz]
  | .thn ps => by have := frs_szs ps; simp only [fr, sz]; omega
  | .eit ps => by have := frs_szs ps; simp only [fr, sz]; omega
  | .many p => by have := fr_sz p; simp only [fr, sz]; omega
theorem frs_szs : ∀ ps : List Pat, frs ps + ps.length ≤ szs ps
  | [] => by simp [frs, szs]
  | p :: ps => by have := fr_sz p; have := frs_szs ps; simp only [frs, szs, List.length_cons]; omega
end
theorem lt_len {ks : List Nat} {B : Nat} (nd : ks.Nodup) (b : ∀ k ∈ ks, k < B) : ks.length ≤ B := by
  have := nd.length_le_of_subset (l₂ := List.range B) fun k hk => List.mem_range.mpr (b k hk)
  rwa [List.length_range] at this
/-! the stands that are come to -/
structure CI (ms : List Move) (mk : Str → Bool) (S : List Nat) (B : Nat) (ks ns : List Nat) : Prop where
  nd : ks.Nodup
  bd : ∀ k ∈ ks, k < B
  sub : ∀ k ∈ ns, k ∈ ks
  come : ∀ k ∈ ks, Come ms mk (fun q => q ∈ S) k
  init : ∀ q ∈ S, q ∈ ks
  clo : ∀ k ∈ ks, k ∉ ns → ∀ l o, (k, l, o) ∈ ms → holdsAt l mk = true → o ∈ ks
/-- one stand is looked at; the moves ahead of i are done -/
structure CJ (ms mvs : List Move) (mk : Str → Bool) (S : List Nat) (B : Nat) (h i : Nat) (ks ns : List Nat) : Prop where
  nd : ks.Nodup
  bd : ∀ k ∈ ks, k < B
  sub : ∀ k ∈ ns, k ∈ ks
  come : ∀ k ∈ ks, Come ms mk (fun q => q ∈ S) k
  init : ∀ q ∈ S, q ∈ ks
  here : h ∈ ks
  clo : ∀ k ∈ ks, k ∉ ns → k ≠ h → ∀ l o, (k, l, o) ∈ ms → holdsAt l mk = true → o ∈ ks
  cloh : ∀ j, j < i → ∀ l o, mvs[j]? = some (h, l, o) → holdsAt l mk = true → o ∈ ks
section
variable {ms mvs : List Move} {mk : Str → Bool} {S : List Nat} {B h i : Nat} {ks ns : List Nat}
theorem CI.pop (c : CI ms mk S B ks (ns ++ [h])) : CJ ms mvs mk S B h 0 ks ns where
  nd := c.nd
  bd := c.bd
  sub := fun k hk => c.sub k (List.mem_append_left _ hk)
  come := c.come
  init := c.init
  here := c.sub h (by simp)
  clo := fun k hk hn hh => c.clo k hk fun z => (List.mem_append.mp z).elim hn fun z => hh (List.mem_singleton.mp z)
  cloh := fun j hj => absurd hj (Nat.not_lt_zero _)
theorem CJ.skip (c : CJ ms mvs mk S B h i ks ns) {a : Nat} {l : Pat} {o : Nat} (e : mvs[i]? = some (a, l, o)) (n : a = h → o ∉ ks → holdsAt l mk = true → False) : CJ ms mvs mk S B h (i + 1) ks ns where
  nd := c.nd
  bd := c.bd
  sub := c.sub
  come := c.come
  init := c.init
  here := c.here
  clo := c.clo
  cloh := fun j hj l' o' e' h' => by
    by_cases hji : j < i
    · exact c.cloh j hji l' o' e' h'
    · have : j = i := by omega
      subst this
      rw [e] at e'
      cases e'
      exact Decidable.byContradiction fun z => n rfl z h'
theorem CJ.add (c : CJ ms mvs mk S B h i ks ns) (hm : ∀ mv, mv ∈ mvs → mv ∈ ms) (hb : ∀ mv ∈ ms, mv.2.2 < B) {l : Pat} {o : Nat} (e : mvs[i]? = some (h, l, o)) (n : o ∉ ks) (hl : holdsAt l mk = true) : CJ ms mvs mk S B h (i + 1) (ks ++ [o]) (ns ++ [o]) where
  nd := List.nodup_append.mpr ⟨c.nd, by simp, fun a ha b hb e => n (by rw [List.mem_singleton.mp hb] at e; exact e ▸ ha)⟩
  bd := fun k hk => (List.mem_append.mp hk).elim (c.bd k) fun z => by rw [List.mem_singleton.mp z]; exact hb _ (hm _ (List.mem_of_getElem? e))
  sub := fun k hk => List.mem_append.mpr ((List.mem_append.mp hk).imp (c.sub k) id)
  come := fun k hk => (List.mem_append.mp hk).elim (c.come k) fun z => by
    rw [List.mem_singleton.mp z]
    obtain ⟨p, s, x⟩ := c.come h c.here
    exact ⟨p, s, x.trans (.more (hm _ (List.mem_of_getElem? e)) hl (.refl _))⟩
  init := fun q hq => List.mem_append_left _ (c.init q hq)
  here := List.mem_append_left _ c.here
  clo := fun k hk hn hh l' o' m' h' => List.mem_append_left _ (c.clo k ((List.mem_append.mp hk).elim id fun z => absurd (List.mem_append_right _ z) hn) (fun z => hn (List.mem_append_left _ z)) hh l' o' m' h')
  cloh := fun j hj l' o' e' h' => by
    by_cases hji : j < i
    · exact List.mem_append_left _ (c.cloh j hji l' o' e' h')
    · have : j = i := by omega
      subst this
      rw [e] at e'
      cases e'
      simp
theorem CJ.done (c : CJ ms mvs mk S B h mvs.length ks ns) (hm : ∀ mv, mv ∈ ms → mv ∈ mvs) : CI ms mk S B ks ns where
  nd := c.nd
  bd := c.bd
  sub := c.sub
  come := c.come
  init := c.init
  clo := fun k hk hn l o m hl => by
    by_cases e : k = h
    · subst e
      obtain ⟨j, hj, e⟩ := List.getElem_of_mem (hm _ m)
      exact c.cloh j hj l o (by rw [List.getElem?_eq_getElem hj, e]) hl
    · exact c.clo k hk hn e l o m hl
theorem CI.all (c : CI ms mk S B ks []) (q : Nat) : q ∈ ks ↔ Come ms mk (fun q => q ∈ S) q := by
  refine ⟨c.come q, ?_⟩
  rintro ⟨p, s, x⟩
  have hp := c.init p s
  clear s
  induction x with
  | refl => exact hp
  | more m h _ ih => exact ih (c.clo _ hp (by simp) _ _ m h)
end
/-! ints in order -/
theorem sorted_nats {ys : List Int} {ks : List Nat} (p : ys.Perm (ks.map fun k : Nat => (k : Int))) (s : ys.Pairwise (· ≤ ·)) (nd : ks.Nodup) : ∃ ns : List Nat, ys = ns.map (fun k : Nat => (k : Int)) ∧ ns.Pairwise (· < ·) ∧ ∀ q, q ∈ ns ↔ q ∈ ks := by
  have h0 : ∀ y ∈ ys, 0 ≤ y := fun y hy => by
    obtain ⟨k, _, e⟩ := List.mem_map.mp (p.mem_iff.mp hy)
    omega
  have e0 : ys = (ys.map Int.toNat).map fun k : Nat => (k : Int) := by
    rw [List.map_map]
    have : ys.map ((fun k : Nat => (k : Int)) ∘ Int.toNat) = ys.map id := List.map_congr_left fun y hy => by
      have := h0 y hy
      show ((y.toNat : Nat) : Int) = y
      omega
    rw [this, List.map_id]
  have hm : ∀ q, q ∈ ys.map Int.toNat ↔ q ∈ ks := fun q => by
    constructor
    · intro hq
      obtain ⟨y, hy, e⟩ := List.mem_map.mp hq
      obtain ⟨k, hk, e2⟩ := List.mem_map.mp (p.mem_iff.mp hy)
      have : q = k := by omega
      rw [this]; exact hk
    · intro hq
      have : (q : Int) ∈ ys := p.mem_iff.mpr (List.mem_map_of_mem (f := fun k : Nat => (k : Int)) hq)
      exact List.mem_map.mpr ⟨_, this, by simp⟩
  refine ⟨ys.map Int.toNat, e0, ?_, hm⟩
  have ndy : ys.Nodup := p.nodup_iff.mpr (List.Pairwise.map _ (fun a b h e => h (by omega)) nd)
  rw [List.pairwise_map]
  have both := List.pairwise_and_iff.mpr ⟨s, ndy⟩
  refine both.imp_of_mem fun {a b} ha hb h => ?_
  have := h0 a ha
  have := h0 b hb
  have h2 := h.2
  have h1 := h.1
  omega
mutual
/-- the steps of a pattern -/
def nst : Pat → Nat
  | .step _ _ => 1
  | .thn ps => nsts ps
  | .eit ps => nsts ps
  | .many p => nst p
  | _ => 0
def nsts : List Pat → Nat
  | [] => 0
  | p :: ps => nst p + nsts ps
end
theorem nsts_append (ps qs : List Pat) : nsts (ps ++ qs) = nsts ps + nsts qs := by
  induction ps with
  | nil => simp [nsts]
  | cons p ps ih => simp only [List.cons_append, nsts, ih]; omega
/-! fits -/
mutual
theorem fit_le {L : Ln} {n : Nat} (hn : L.steps.length = n) : ∀ (p : Pat) (i j : Nat), Fit L p i j → i ≤ n → j ≤ n
  | .stay, i, j, f, h => by simp only [Fit] at f; omega
  | .step s w, i, j, f, h => by
    simp only [Fit] at f
    obtain ⟨e, sd, w', e2, _⟩ := f
    have := (List.getElem?_eq_some_iff.mp e2).1
    omega
  | .att m, i, j, f, h => by simp only [Fit] at f; omega
  | .off m, i, j, f, h => by simp only [Fit] at f; omega
  | .thn ps, i, j, f, h => by simp only [Fit] at f; exact fitSeq_le hn ps i j f h
  | .eit ps, i, j, f, h => by simp only [Fit] at f; exact fitAny_le hn ps i j f h
  | .many p, i, j, f, h => by
    simp only [Fit] at f
    induction f with
    | refl => exact h
    | more f1 _ ih => exact ih (fit_le hn p _ _ f1 h)
theorem fitSeq_le {L : Ln} {n : Nat} (hn : L.steps.length = n) : ∀ (ps : List Pat) (i j : Nat), FitSeq L ps i j → i ≤ n → j ≤ n
  | [], i, j, f, h => by simp only [FitSeq] at f; omega
  | p :: ps, i, j, f, h => by
    simp only [FitSeq] at f
    obtain ⟨k, f1, f2⟩ := f
    exact fitSeq_le hn ps k j f2 (fit_le hn p i k f1 h)
theorem fitAny_le {L : Ln} {n : Nat} (hn : L.steps.length = n) : ∀ (ps : List Pat) (i j : Nat), FitAny L ps i j → i ≤ n → j ≤ n
  | [], i, j, f, h => by simp only [FitAny] at f
  | p :: ps, i, j, f, h => by
    simp only [FitAny] at f
    rcases f with f | f
    · exact fit_le hn p i j f h
    · exact fitAny_le hn ps i j f h
end
theorem fitSeq_snoc {L : Ln} {p : Pat} : ∀ (ps : List Pat) (i j : Nat), FitSeq L (ps ++ [p]) i j ↔ ∃ k, FitSeq L ps i k ∧ Fit L p k j
  | [], i, j => by
    simp only [List.nil_append, FitSeq]
    exact ⟨fun ⟨k, f, e⟩ => ⟨i, rfl, e ▸ f⟩, fun ⟨k, e, f⟩ => ⟨j, e ▸ f, rfl⟩⟩
  | q :: ps, i, j => by
    simp only [List.cons_append, FitSeq, fitSeq_snoc ps]
    exact ⟨fun ⟨k, f, l, g, h⟩ => ⟨l, ⟨k, f, g⟩, h⟩, fun ⟨l, ⟨k, f, g⟩, h⟩ => ⟨k, f, l, g, h⟩⟩
theorem fitAny_snoc {L : Ln} {p : Pat} : ∀ (ps : List Pat) (i j : Nat), FitAny L (ps ++ [p]) i j ↔ FitAny L ps i j ∨ Fit L p i j
  | [], i, j => by simp [FitAny]
  | q :: ps, i, j => by simp only [List.cons_append, FitAny, fitAny_snoc ps, or_assoc]
theorem Star.snoc {R : Nat → Nat → Prop} {i k j : Nat} (h : Star R i k) (r : R k j) : Star R i j := by
  induction h with
  | refl => exact .more r (.refl _)
  | more a _ ih => exact .more a (ih r)
theorem star_closed {R : Nat → Nat → Prop} {i : Nat} {js : List Nat} (h0 : i ∈ js) (hc : ∀ k ∈ js, ∀ j, R k j → j ∈ js) {j : Nat} (h : Star R i j) : j ∈ js := by
  induction h with
  | refl => exact h0
  | more a _ ih => exact ih (hc _ h0 _ a)
/-- a line by its marks and steps -/
def lnOf (mss : List (List Str)) (steps : List (Str × Str)) : Ln := ⟨fun k => mkOf (mss.getD k []), steps⟩
theorem lineOf_eq (t : Tr) (m : List Str) : lineOf t m = lnOf (t.map (·.1) ++ [m]) (t.map (·.2)) := rfl
end Pk
namespace Pk
set_option autoImplicit false
set_option maxRecDepth 100000
set_option maxHeartbeats 2000000
open PySem PySem.Spec PyProof.Rows L2
/-! ### data over the tracked tuples -/
mutual
inductive Dn (H : Hp) : V → NestedKey → Prop
  | non : Dn H .non .none
  | num (i : Int) : Dn H (.int i) (.num i)
  | text (x : Str) : Dn H (.str x) (.text x)
  | tup {a : Addr} {xs : List V} {ks : List NestedKey} : H a = some (.tup xs) → DnAll H xs ks → Dn H (.ref a) (.tup ks)
inductive DnAll (H : Hp) : List V → List NestedKey → Prop
  | nil : DnAll H [] []
  | cons {v : V} {vs : List V} {k : NestedKey} {ks : List NestedKey} : Dn H v k → DnAll H vs ks → DnAll H (v :: vs) (k :: ks)
end
/-- the tuples stand -/
def Tps (H H' : Hp) : Prop := ∀ a xs, H a = some (.tup xs) → H' a = some (.tup xs)
theorem Tps.refl (H : Hp) : Tps H H := fun _ _ h => h
theorem Tps.trans {H H1 H2 : Hp} (a : Tps H H1) (b : Tps H1 H2) : Tps H H2 := fun x xs h => b x xs (a x xs h)
theorem Tps.new {H : Hp} {p : Addr} {o : HO} (h : H p = none) : Tps H (upd H p o) := fun a xs e => by rw [upd_ne (ne_of_none e h)]; exact e
theorem Tps.mut {H : Hp} {p : Addr} {o u : HO} (h : H p = some u) (n : ∀ xs, u ≠ .tup xs) : Tps H (upd H p o) := fun a xs e => by
  rw [upd_ne (ne_of e h fun q => n xs q.symm)]
  exact e
theorem Same.tps {H H' : Hp} (h : Same H H') : Tps H H' := fun a xs e => h a _ e
mutual
theorem Dn.mono {H H' : Hp} (t : Tps H H') : ∀ {k : NestedKey} {v : V}, Dn H v k → Dn H' v k
  | .none, _, h => by cases h; exact .non
  | .num _, _, h => by cases h; exact .num _
  | .text _, _, h => by cases h; exact .text _
  | .tup _, _, h => by
    cases h with
    | tup e r => exact .tup (t _ _ e) (DnAll.mono t r)
theorem DnAll.mono {H H' : Hp} (t : Tps H H') : ∀ {ks : List NestedKey} {vs : List V}, DnAll H vs ks → DnAll H' vs ks
  | [], _, h => by cases h; exact .nil
  | _ :: _, _, h => by
    cases h with
    | cons a b => exact .cons (Dn.mono t a) (DnAll.mono t b)
end
mutual
theorem Dn.dp {K : PySem.W.Frag} {H : Hp} : ∀ {k : NestedKey} {v : V}, Dn H v k → Dp K H v k.data
  | .none, _, h => by cases h; exact .non
  | .num _, _, h => by cases h; exact .int _
  | .text _, _, h => by cases h; exact .str _
  | .tup _, _, h => by
    cases h with
    | tup e r => exact .tup (.inl (.inl e)) (DnAll.dp r)
theorem DnAll.dp {K : PySem.W.Frag} {H : Hp} : ∀ {ks : List NestedKey} {vs : List V}, DnAll H vs ks → DpAll K H vs (NestedKey.datas ks)
  | [], _, h => by cases h; exact .nil
  | _ :: _, _, h => by
    cases h with
    | cons a b => exact .cons (Dn.dp a) (DnAll.dp b)
end
mutual
theorem Dn.is {X : Cx} {pins : List (Addr × Obj)} {σ : L2.St} {H : Hp} {s : Shared} (I : Inv X pins σ H s) : ∀ {k : NestedKey} {v : V} {u : Value}, Dn H v k → RelV v u → NestedIs s.heap k u
  | .none, _, _, h, r => by cases h; cases r; exact .none
  | .num _, _, _, h, r => by cases h; obtain ⟨t, rfl⟩ := r; exact .int _ t
  | .text _, _, _, h, r => by cases h; obtain ⟨t, rfl⟩ := r; exact .text _ t
  | .tup _, _, _, h, r => by
    cases h with
    | tup e q =>
      cases r
      obtain ⟨_, its, rv, ⟨o, ho, hc, n, hd⟩⟩ := (show ObjOk X.prog X.w H s.heap _ (.tup _) from I.hok _ _ e)
      exact .tup ho hc hd (by simpa using DnAll.is I q rv)
theorem DnAll.is {X : Cx} {pins : List (Addr × Obj)} {σ : L2.St} {H : Hp} {s : Shared} (I : Inv X pins σ H s) : ∀ {ks : List NestedKey} {vs : List V} {us : List Value}, DnAll H vs ks → Vals vs us → NestedAll s.heap ks us
  | [], _, _, h, r => by cases h; cases r; exact .nil
  | _ :: _, _, _, h, r => by
    cases h with
    | cons a b =>
      cases r with
      | cons r1 r2 => exact .cons (Dn.is I a r1) (DnAll.is I b r2)
end
mutual
theorem Dn.inj {H : Hp} : ∀ {k k' : NestedKey} {v : V}, Dn H v k → Dn H v k' → k = k'
  | .none, _, _, h, h' => by cases h; cases h'; rfl
  | .num _, _, _, h, h' => by cases h; cases h'; rfl
  | .text _, _, _, h, h' => by cases h; cases h'; rfl
  | .tup _, _, _, h, h' => by
    cases h with
    | tup e r =>
      cases h' with
      | tup e' r' =>
        rw [e] at e'
        cases e'
        rw [DnAll.inj r r']
theorem DnAll.inj {H : Hp} : ∀ {ks ks' : List NestedKey} {vs : List V}, DnAll H vs ks → DnAll H vs ks' → ks = ks'
  | [], _, _, h, h' => by cases h; cases h'; rfl
  | _ :: _, _, _, h, h' => by
    cases h with
    | cons a b =>
      cases h' with
      | cons a' b' => rw [Dn.inj a a', DnAll.inj b b']
end
theorem DnAll.length {H : Hp} : ∀ {ks : List NestedKey} {vs : List V}, DnAll H vs ks → vs.length = ks.length
  | [], _, h => by cases h; rfl
  | _ :: _, _, h => by
    cases h with
    | cons a b => rw [List.length_cons, List.length_cons, DnAll.length b]
theorem DnAll.get {H : Hp} : ∀ {ks : List NestedKey} {vs : List V} {i : Nat} {k : NestedKey}, DnAll H vs ks → ks[i]? = some k → ∃ v, vs[i]? = some v ∧ Dn H v k
  | [], _, _, _, h, e => by simp at e
  | _ :: _, _, 0, _, h, e => by
    cases h with
    | cons a b => simp at e; subst e; exact ⟨_, rfl, a⟩
  | _ :: _, _, i + 1, _, h, e => by
    cases h with
    | cons a b =>
      obtain ⟨v, h1, h2⟩ := DnAll.get (i := i) b (by simpa using e)
      exact ⟨v, by simpa using h1, h2⟩
theorem DnAll.getV {H : Hp} : ∀ {ks : List NestedKey} {vs : List V} {i : Nat} {v : V}, DnAll H vs ks → vs[i]? = some v → ∃ k, ks[i]? = some k ∧ Dn H v k
  | [], _, _, _, h, e => by cases h; simp at e
  | _ :: _, _, 0, _, h, e => by
    cases h with
    | cons a b => simp at e; subst e; exact ⟨_, rfl, a⟩
  | _ :: _, _, i + 1, _, h, e => by
    cases h with
    | cons a b =>
      obtain ⟨k, h1, h2⟩ := DnAll.getV (i := i) b (by simpa using e)
      exact ⟨k, by simpa using h1, h2⟩
theorem DnAll.append {H : Hp} : ∀ {ks ks' : List NestedKey} {vs vs' : List V}, DnAll H vs ks → DnAll H vs' ks' → DnAll H (vs ++ vs') (ks ++ ks')
  | [], _, _, _, h, h' => by cases h; exact h'
  | _ :: _, _, _, _, h, h' => by
    cases h with
    | cons a b => exact .cons a (DnAll.append b h')
theorem datas_map (ks : List NestedKey) : NestedKey.datas ks = ks.map NestedKey.data := by
  induction ks with
  | nil => rfl
  | cons k ks ih => rw [NestedKey.datas, ih] <;> rfl

/-! ### sorted -/
/-- the order of sorted -/
def kle (a b : V × NestedKey) : Bool := PySem.W.dataLe false (fun b : V × NestedKey => b.2.data) a b
structure Sble (bs : List (V × NestedKey)) : Prop where
  al : PySem.W.AllAlike (bs.map fun b => b.2.data)
  so : PySem.W.Sortable (bs.map fun b => b.2.data)
  len : bs.length ≤ 100000
  dep : ∀ b ∈ bs, b.2.data.depth ≤ 8

mutual
theorem Dn.reads {X : Cx} {pins : List (Addr × Obj)} {σ : L2.St} {H : Hp} {s : Shared} (I : Inv X pins σ H s) : ∀ {k : NestedKey} {v : V} {u : Value}, Dn H v k → RelV v u → ∃ as, Reads s.heap u k.data as ∧ ∀ a ∈ as, a < s.heap.objs.size
  | .none, _, _, h, r => by cases h; cases r; exact ⟨_, .none, fun a m => by cases m⟩
  | .num _, _, _, h, r => by cases h; obtain ⟨t, rfl⟩ := r; exact ⟨_, .int _ t, fun a m => by cases m⟩
  | .text _, _, _, h, r => by cases h; obtain ⟨t, rfl⟩ := r; exact ⟨_, .str _ t, fun a m => by cases m⟩
  | .tup _, _, _, h, r => by
    cases h with
    | tup e q =>
      cases r
      obtain ⟨_, its, rv, ⟨o, ho, hc, n, hd⟩⟩ := (show ObjOk X.prog X.w H s.heap _ (.tup _) from I.hok _ _ e)
      obtain ⟨as, r1, lt⟩ := DnAll.reads I q rv
      exact ⟨_, .tuple ho hc hd (by simpa using r1), lt⟩
theorem DnAll.reads {X : Cx} {pins : List (Addr × Obj)} {σ : L2.St} {H : Hp} {s : Shared} (I : Inv X pins σ H s) : ∀ {ks : List NestedKey} {vs : List V} {us : List Value}, DnAll H vs ks → Vals vs us → ∃ as, ReadsAll s.heap us (NestedKey.datas ks) as ∧ ∀ a ∈ as, a < s.heap.objs.size
  | [], _, _, h, r => by cases h; cases r; exact ⟨_, .nil, fun a m => by cases m⟩
  | _ :: _, _, _, h, r => by
    cases h with
    | cons a b =>
      cases r with
      | cons r1 r2 =>
        obtain ⟨as, q1, l1⟩ := Dn.reads I a r1
        obtain ⟨bs, q2, l2⟩ := DnAll.reads I b r2
        refine ⟨_, .cons q1 q2, fun a m => ?_⟩
        rcases List.mem_append.mp m with m | m
        · exact l1 a m
        · exact l2 a m
end
section
variable {X : Cx}
/-- the values us, in whatever order they came, put into a list that is sorted -/
theorem each_of {R : Value → (V × NestedKey) → Prop} : ∀ {bs : List (V × NestedKey)} {us : List Value}, Vals (bs.map (·.1)) us → (∀ b ∈ bs, ∀ u, RelV b.1 u → R u b) → PySem.W.EachIs R us bs
  | [], us, r, h => by cases r; exact .nil
  | b :: bs, us, r, h => by
    cases r with
    | cons r1 r2 => exact .cons (h b List.mem_cons_self _ r1) (each_of r2 fun b' m => h b' (List.mem_cons_of_mem _ m))
theorem vals_of_each : ∀ {bs : List (V × NestedKey)} {us : List Value}, PySem.W.EachIs (fun u (b : V × NestedKey) => RelV b.1 u) us bs → Vals (bs.map (·.1)) us
  | [], us, h => by cases h; exact .nil
  | b :: bs, us, h => by
    cases h with
    | cons a b => exact .cons a (vals_of_each b)
def srt (bs : List (V × NestedKey)) : List (V × NestedKey) := bs.mergeSort (PySem.W.dataLe false fun b : V × NestedKey => b.2.data)
theorem sort_tail {pins : List (Addr × Obj)} {σ : L2.St} {H : Hp} {s : Shared} {Q : VK} {us : List Value} {bs : List (V × NestedKey)} (hu : X.A.units + 64 < cLine) (I : Inv X pins σ H s) (r : Vals (bs.map (·.1)) us) (hd : ∀ b ∈ bs, Dn H b.1 b.2) (sb : Sble bs)
    (q : ∀ p, H p = none → Q (.ref p) (upd H p (.lst ((srt bs).map (·.1))))) :
    wpAny (model X.prog X.w) X.A.in1 (do let l ← newList us; let _ ← holding [l] (call (.builtin "list.sort") [l] []); ret l)
      (fun fin s' => ∃ v, fin = .done (.ret v) ∧ EP X pins σ Q v s') X.xe s := by
  have hl : us.length = bs.length := by rw [← r.length, List.length_map]
  have h16 : us.length ≤ sizeLine := by rw [hl]; exact Nat.le_trans sb.len (by decide)
  refine wpAny_bind (wpAny_newList ?_ h16)
  have old : ∀ b o, s.heap.get? b = some o → (s.heap.push (seqObj "list" us.toArray 0)).get? b = some o := fun b o e => Heap.get?_push_of_some _ e
  have here : (s.heap.push (seqObj "list" us.toArray 0)).get? s.heap.objs.size = some (seqObj "list" us.toArray 0) := Heap.get?_push_size _ rfl
  refine wpAny_bind (wpAny_holding ?_)
  refine PySem.W.list_sort_data (R := fun u (b : V × NestedKey) => RelV b.1 u) (bs := bs) (enc := fun b => b.2.data) (s := { s with heap := s.heap.push (seqObj "list" us.toArray 0) }) here (each_of r fun b _ u h => h)
    (each_of r fun b m u h => ?_) sb.al sb.so (Nat.le_trans sb.len (by decide)) (fun b m => ?_) fun out ol eo => ?_
  · obtain ⟨as, r1, lt⟩ := (hd b m).reads I h
    exact ⟨as, PyProof.Rows.Reads.keeps old r1, fun m => absurd (lt _ m) (Nat.lt_irrefl _)⟩
  · have h1 := sb.dep b m
    show X.A.units + 1 + 1 + _ < _
    omega
  · have vo : Vals ((srt bs).map (·.1)) out := vals_of_each eo
    obtain ⟨c, hc⟩ := sortedHeap_at (vs := us) (out := out.toArray) here
    have fr : H s.heap.objs.size = none := I.hok.fresh (Nat.le_refl _)
    refine wpAny_pure ⟨_, rfl, .ref s.heap.objs.size, _, I.laid (t' := s.toks) (a := s.heap.objs.size) (fun b u e => ?_) (Nat.le_refl _)
      (show ObjOk X.prog X.w _ _ _ (.lst ((srt bs).map (·.1))) from ⟨?_, out, c, vo, hc⟩), rfl, q _ fr⟩
    · have lt := Heap.lt_size e
      rw [sortedHeap_old (Nat.ne_of_lt lt) (by rw [size_push']; exact Nat.lt_succ_of_lt lt)]
      exact old b u e
    · rw [vo.length, ol]; exact Nat.le_trans sb.len (by decide)
end
end Pk
namespace Pk
set_option autoImplicit false
set_option maxRecDepth 100000
set_option maxHeartbeats 2000000
open PySem PySem.Spec PyProof.Rows L2
section
variable {X : Cx}
/-! ### sorted(list) -/
/-- the answer of sorted over pairs (value, what it is) -/
def rSrt (bs : List (V × NestedKey)) (H : Hp) (Q : VK) : Prop := (∀ b ∈ bs, Dn H b.1 b.2) ∧ Sble bs ∧ ∀ p, H p = none → Q (.ref p) (upd H p (.lst ((srt bs).map (·.1))))
def rSortL (K : PySem.W.Frag) : List V → Hp → VK → Prop := fun xs H Q => ∃ (l : Addr) (bs : List (V × NestedKey)), xs = [.ref l] ∧ SqL K H l (bs.map (·.1)) ∧ rSrt bs H Q
theorem sorted_open {u : Value} {pins : List (Addr × Obj)} {σ : L2.St} {H : Hp} {s : Shared} {Q : VK} (hu : X.A.units + 64 < cLine)
    (h : wpAny (model X.prog X.w) X.A.in1 (collect u) (fun us s' => ∃ bs : List (V × NestedKey), Inv X pins σ H s' ∧ Vals (bs.map (·.1)) us ∧ rSrt bs H Q) X.xe s) :
    wpAny (model X.prog X.w) X.A (call (.builtin "sorted") [u]) (EP X pins σ Q) X.xe s := by
  refine Calls.call_function_entry kind_sorted plain_sorted entry_sorted (args_sorted1 _) ?_
  unfold Builtin.«sorted»
  refine wpAny_bind (m := checkCount "sorted" 1 1 _) (wpAny_pure ?_)
  refine wpAny_bind (thn h fun us s' ⟨bs, I, r, d, sb, q⟩ => ?_)
  exact sort_tail hu I r d sb q
theorem call_sortedL (hu : X.A.units + 64 < cLine) : CallR X (.builtin "sorted") (rSortL X.K) := by
  intro pins s σ H xs us Q I r h
  obtain ⟨l, bs, rfl, hl, q⟩ := h
  obtain ⟨u, rfl, ru⟩ := vals1 r
  cases ru
  obtain ⟨its, rv, pl, hz⟩ := I.list hl
  have hL : its.length ≤ sizeLine := by rw [← rv.length]; exact hz
  refine sorted_open (H := H) hu (PyProof.Rows.collect_list pl.isList ?_ hL)
  refine ⟨bs, I.kept fun b o e => ?_, rv, q⟩
  have lt := Heap.lt_size e
  rw [Heap.get?_update_ne _ _ _ _ (Nat.ne_of_lt lt)]
  exact Heap.get?_push_of_some _ e

/-! ### dicts whose keys are nested tuples -/
/-- the value that a plain V stands for: None, a truth, an object -/
def vOf : V → Value
  | .non => .none
  | .bl b => .bool b
  | .ref a => .ref a
  | .ty n => .type n
  | .int i => .int i 0
  | .str x => .str x 0
  | .byt b => .bytes b 0
  | .flt b => .float b 0
def plainV : V → Bool
  | .non => true | .bl _ => true | .ref _ => true | _ => false
theorem rel_plain {v : V} {u : Value} (p : plainV v = true) (r : RelV v u) : u = vOf v := by
  cases v <;> first | exact r | cases p
theorem rel_vOf {v : V} (p : plainV v = true) : RelV v (vOf v) := by
  cases v <;> first | rfl | cases p
abbrev NEnt := NestedKey × Addr × V
def nEnt (P : Program) (w : World) (x : NEnt) : DictEntry := entryOfKey (nestedKind P w) (x.1, x.2.1, vOf x.2.2)
def DNat (P : Program) (w : World) (a : Addr) (xs : List NEnt) (h : Heap) : Prop :=
  ∃ o es ep, h.get? a = some o ∧ o.ExactDict ∧ o.data = .dict es ep ∧ es.toList = xs.map (nEnt P w) ∧ (a == sysModules) = false
/-- at a a dict with the entries xs: a key, the address of its tuple, the value -/
def DN (P : Program) (w : World) (a : Addr) (xs : List NEnt) : HO := .ext fun h => DNat P w a xs h
/-- what H knows of it -/
structure DnOk (X : Cx) (H : Hp) (a : Addr) (xs : List NEnt) : Prop where
  at_ : H a = some (DN X.prog X.w a xs)
  keys : ∀ x ∈ xs, Dn H (.ref x.2.1) x.1 ∧ x.1.depth ≤ 8
  nd : (xs.map (·.1)).Nodup
  vals : ∀ x ∈ xs, plainV x.2.2 = true
  len : xs.length ≤ 100000
theorem dn_new {P : Program} {w : World} {H : Hp} {h : Heap} {a : Addr} {xs : List NEnt} (d : DNat P w a xs h) : ObjOk P w H h a (DN P w a xs) := by
  obtain ⟨o, es, ep, ho, r⟩ := id d
  exact ⟨d, ⟨o, ho⟩, fun h1 h2 ⟨o', es', ep', ho', r'⟩ k => ⟨o', es', ep', k o' ho', r'⟩⟩
def entL (xs : List NEnt) : List (NestedKey × Addr × Value) := xs.map fun x => (x.1, x.2.1, vOf x.2.2)
theorem entL_fst (xs : List NEnt) : (entL xs).map (·.1) = xs.map (·.1) := by
  unfold entL; rw [List.map_map] <;> rfl
theorem dn_is {pins : List (Addr × Obj)} {σ : L2.St} {H : Hp} {s : Shared} (I : Inv X pins σ H s) {k : NestedKey} {b : Addr} (h : Dn H (.ref b) k) (hd : k.depth ≤ 8) : (nestedKind X.prog X.w).is s.heap k b := ⟨h.is I rfl, hd⟩
theorem dn_ofH {pins : List (Addr × Obj)} {σ : L2.St} {H : Hp} {s : Shared} {a : Addr} {xs : List NEnt} (I : Inv X pins σ H s) (d : DnOk X H a xs) : s.heap.DictOfH (nestedKind X.prog X.w) a (entL xs) ∧ (a == sysModules) = false := by
  obtain ⟨o, es, ep, ho, ex, hd, he, sm⟩ := (I.hok a _ d.at_).1
  refine ⟨⟨o, es, ep, ho, ex, hd, ?_, fun x m => ?_, by rw [entL_fst]; exact d.nd⟩, sm⟩
  · rw [he]; unfold entL nEnt; rw [List.map_map] <;> rfl
  · obtain ⟨y, my, rfl⟩ := List.mem_map.mp m
    obtain ⟨k1, k2⟩ := d.keys y my
    exact dn_is I k1 k2
def putN (xs : List NEnt) (k : NestedKey) (b : Addr) (v : V) : List NEnt :=
  if (xs.any fun x => decide (x.1 = k)) = true then xs.map (fun x => if x.1 = k then (x.1, x.2.1, v) else x) else xs ++ [(k, b, v)]
def getN (xs : List NEnt) (k : NestedKey) : Option V := (xs.find? fun x => decide (x.1 = k)).map (·.2.2)
theorem room8 {A : Around} (hu : A.units + 64 < cLine) : (nestedKind X.prog X.w).room A.in1 := by
  show A.units + 1 + 8 < cLine
  omega

theorem atKey_ent (xs : List NEnt) (k : NestedKey) : (atKey (entL xs) k).map (·.2) = (getN xs k).map vOf := by
  induction xs with
  | nil => rfl
  | cons x xs ih =>
    by_cases h : x.1 = k
    · simp [entL, atKey, getN, List.find?_cons, h]
    · simpa [entL, atKey, getN, List.find?_cons, h] using ih
theorem any_ent (xs : List NEnt) (k : NestedKey) : (xs.any fun x => decide (x.1 = k)) = (atKey (entL xs) k).isSome := by
  induction xs with
  | nil => rfl
  | cons x xs ih =>
    by_cases h : x.1 = k
    · simp [entL, atKey, List.find?_cons, h]
    · simpa [entL, atKey, List.find?_cons, h] using ih
theorem entL_put (xs : List NEnt) (k : NestedKey) (b : Addr) (v : V) : entL (putN xs k b v) = storedH (entL xs) k b (vOf v) := by
  unfold putN storedH
  rw [any_ent]
  split
  · unfold entL
    rw [List.map_map, List.map_map]
    refine List.map_congr_left fun x _ => ?_
    by_cases h : x.1 = k <;> simp [putAt, h]
  · simp [entL]
theorem putN_new {xs : List NEnt} {k : NestedKey} {b : Addr} {v : V} (h : k ∉ xs.map (·.1)) : putN xs k b v = xs ++ [(k, b, v)] := by
  unfold putN
  rw [if_neg]
  intro e
  obtain ⟨x, m, d⟩ := List.any_eq_true.mp e
  exact h (List.mem_map.mpr ⟨x, m, of_decide_eq_true d⟩)
theorem putN_old {xs : List NEnt} {k : NestedKey} {b : Addr} {v : V} (h : k ∈ xs.map (·.1)) : putN xs k b v = xs.map fun x => if x.1 = k then (x.1, x.2.1, v) else x := by
  unfold putN
  rw [if_pos]
  obtain ⟨x, m, e⟩ := List.mem_map.mp h
  exact List.any_eq_true.mpr ⟨x, m, decide_eq_true e⟩
theorem putN_fst (xs : List NEnt) (k : NestedKey) (b : Addr) (v : V) : (putN xs k b v).map (·.1) = if k ∈ xs.map (·.1) then xs.map (·.1) else xs.map (·.1) ++ [k] := by
  by_cases h : k ∈ xs.map (·.1)
  · rw [putN_old h, if_pos h, List.map_map]
    refine List.map_congr_left fun x _ => ?_
    by_cases e : x.1 = k <;> simp [e]
  · rw [putN_new h, if_neg h]; simp
theorem getN_put {xs : List NEnt} {k : NestedKey} {b : Addr} {v : V} (h : k ∉ xs.map (·.1)) (j : NestedKey) : getN (putN xs k b v) j = if j = k then some v else getN xs j := by
  rw [putN_new h]
  induction xs with
  | nil =>
    by_cases e : j = k
    · subst e; simp [getN]
    · rw [if_neg e]
      have e2 : ¬ k = j := fun z => e z.symm
      simp [getN, List.find?_cons, e2]
  | cons x xs ih =>
    have h' : k ∉ xs.map (·.1) := fun m => h (by rw [List.map_cons]; exact List.mem_cons_of_mem _ m)
    have hx : x.1 ≠ k := fun e => h (by rw [List.map_cons, e]; exact List.mem_cons_self)
    have ih := ih h'
    by_cases e : x.1 = j
    · have e2 : j ≠ k := fun z => hx (e.trans z)
      rw [if_neg e2]
      simp [getN, List.find?_cons, e]
    · have s1 : getN (x :: xs ++ [(k, b, v)]) j = getN (xs ++ [(k, b, v)]) j := by simp [getN, List.find?_cons, e]
      have s2 : getN (x :: xs) j = getN xs j := by simp [getN, List.find?_cons, e]
      rw [s1, s2, ih]
theorem DnOk.put {H : Hp} {a : Addr} {xs : List NEnt} (d : DnOk X H a xs) {k : NestedKey} {b : Addr} {v : V} (hk : Dn H (.ref b) k) (hd : k.depth ≤ 8) (hv : plainV v = true) (hl : xs.length < 100000) :
    DnOk X (upd H a (DN X.prog X.w a (putN xs k b v))) a (putN xs k b v) := by
  have t : Tps H (upd H a (DN X.prog X.w a (putN xs k b v))) := Tps.mut d.at_ fun _ z => by cases z
  have mem : ∀ x ∈ putN xs k b v, (∃ y ∈ xs, y.1 = x.1 ∧ y.2.1 = x.2.1 ∧ (x.2.2 = y.2.2 ∨ x.2.2 = v)) ∨ x = (k, b, v) := fun x m => by
    by_cases h : k ∈ xs.map (·.1)
    · rw [putN_old h] at m
      obtain ⟨y, my, e⟩ := List.mem_map.mp m
      refine .inl ⟨y, my, ?_⟩
      by_cases e2 : y.1 = k
      · rw [if_pos e2] at e; subst e; exact ⟨rfl, rfl, .inr rfl⟩
      · rw [if_neg e2] at e; subst e; exact ⟨rfl, rfl, .inl rfl⟩
    · rw [putN_new h] at m
      rcases List.mem_append.mp m with m | m
      · exact .inl ⟨x, m, rfl, rfl, .inl rfl⟩
      · exact .inr (List.mem_singleton.mp m)
  refine ⟨upd_same, fun x m => ?_, ?_, fun x m => ?_, ?_⟩
  · rcases mem x m with ⟨y, my, e1, e2, _⟩ | e
    · rw [← e1, ← e2]; exact ⟨(d.keys y my).1.mono t, (d.keys y my).2⟩
    · subst e; exact ⟨hk.mono t, hd⟩
  · rw [putN_fst]
    split
    · exact d.nd
    · rename_i h
      refine List.nodup_append.mpr ⟨d.nd, by simp, fun x mx y my e => h ?_⟩
      rw [List.mem_singleton] at my
      rw [← my, ← e]; exact mx
  · rcases mem x m with ⟨y, my, _, _, e⟩ | e
    · rcases e with e | e
      · rw [e]; exact d.vals y my
      · rw [e]; exact hv
    · subst e; exact hv
  · have e := congrArg List.length (putN_fst xs k b v)
    rw [List.length_map] at e
    rw [e]
    split <;> simp <;> omega
/-- d[k] = v -/
def sNPut (X : Cx) (td ty tv : TE) : TS := fun D σ H => tv σ H fun v H1 => td σ H1 fun x H2 => ty σ H2 fun y H3 => ∃ (a : Addr) (xs : List NEnt) (k : NestedKey) (b : Addr), x = .ref a ∧ y = .ref b ∧ DnOk X H3 a xs ∧ Dn H3 (.ref b) k ∧ k.depth ≤ 8 ∧ plainV v = true ∧ xs.length < 100000 ∧
  D.nx σ (upd H3 a (DN X.prog X.w a (putN xs k b v)))
/-- d[k] -/
def tNGet (X : Cx) (td ty : TE) : TE := fun σ H Q => td σ H fun x H1 => ty σ H1 fun y H2 => ∃ (a : Addr) (xs : List NEnt) (k : NestedKey) (b : Addr) (v : V), x = .ref a ∧ y = .ref b ∧ DnOk X H2 a xs ∧ Dn H2 (.ref b) k ∧ k.depth ≤ 8 ∧ getN xs k = some v ∧ Q v H2
def tNNew (X : Cx) : TE := fun _ H Q => ∀ p, H p = none → Q (.ref p) (upd H p (DN X.prog X.w p []))
variable {o i value : Expr} {pos pos' : Pos} {td ty tv : TE}
theorem dn_write {pins : List (Addr × Obj)} {σ : L2.St} {H : Hp} {s : Shared} {a : Addr} {xs : List NEnt} {k : NestedKey} {b : Addr} {v : V} {h' : Heap} {t : Nat} (I : Inv X pins σ H s) (d : DnOk X H a xs) (m : h'.DictOfH (nestedKind X.prog X.w) a (storedH (entL xs) k b (vOf v)))
    (hs : Heap.SameBut a s.heap h') : Inv X pins σ (upd H a (DN X.prog X.w a (putN xs k b v))) { s with heap := h', toks := t } := by
  obtain ⟨o, es, ep, ho, ex, hd, he, _⟩ := m
  have sm := (dn_ofH I d).2
  refine d_write I (by rw [d.at_]; exact True.intro) hs ⟨o, ho⟩ (dn_new ⟨o, es, ep, ho, ex, hd, ?_, sm⟩)
  rw [he, ← entL_put]
  unfold entL nEnt
  rw [List.map_map] <;> rfl
theorem ps_dputN (hu : X.A.units + 64 < cLine) (ho : PE X o td) (hi : PE X i ty) (hv : PE X value tv) (hs : swapsWith value (some (.Subscript o i pos')) pos.line X.env = pure false) :
    PS X (.Assign [.Subscript o i pos'] value pos) (sNPut X td ty tv) := by
  refine ⟨fun pins s σ H D I h => ?_⟩
  refine wpAny_Assign_Subscript (thn (hv.run pins s σ H _ I h) fun r s1 ⟨v, H1, I1, rv, q1⟩ => thn (ho.run pins s1 σ H1 _ I1 q1) fun u s2 ⟨x, H2, I2, rx, q2⟩ =>
    thn (hi.run pins s2 σ H2 _ I2 q2) fun iv s3 ⟨y, H3, I3, ry, a, xs, k, b, ex, ey, d, hk, dk, pv, hl, q3⟩ => ?_) hs
  subst ex ey
  cases rx
  cases ry
  obtain rfl := rel_plain pv rv
  obtain ⟨m, _⟩ := dn_ofH I3 d
  exact wpAny_setItem_heap (room8 hu) (dn_is I3 hk dk) m (fun h' m' sb => ⟨σ, _, dn_write I3 d m' sb, q3⟩) (by
    have e : (entL xs).length = xs.length := by simp [entL]
    rw [e, sizeLine_eq]; omega)
theorem pe_dgetN (hu : X.A.units + 64 < cLine) (ho : PE X o td) (hi : PE X i ty) (hs : NoSl i) : PE X (.Subscript o i pos) (tNGet X td ty) := by
  refine ⟨fun pins s σ H Q I h => ?_⟩
  refine subD_of PySem.F.slot_dict_getitem.lookup hs (thn (ho.run pins s σ H _ I h) fun u s1 ⟨x, H1, I1, rx, q1⟩ => thn (hi.run pins s1 σ H1 _ I1 q1) fun iv s2 ⟨y, H2, I2, ry, a, xs, k, b, v, ex, ey, d, hk, dk, g, q2⟩ => ?_)
  subst ex ey
  cases rx
  cases ry
  obtain ⟨m, _⟩ := dn_ofH I2 d
  refine ⟨m.typeIs, ?_⟩
  have e := atKey_ent xs k
  rw [g] at e
  cases z : atKey (entL xs) k with
  | none => rw [z] at e; cases e
  | some p =>
    rw [z] at e
    have e2 : p.2 = vOf v := Option.some.inj e
    have pv : plainV v = true := by
      unfold getN at g
      cases f : xs.find? fun x => decide (x.1 = k) with
      | none => rw [f] at g; cases g
      | some y =>
        rw [f] at g
        have e3 : y.2.2 = v := Option.some.inj g
        rw [← e3]
        exact d.vals y (List.mem_of_find?_eq_some f)
    refine wpAny_getItem_heap (room8 hu) (dn_is I2 hk dk) m z ⟨v, H2, I2.tok _, ?_, q2⟩
    rw [e2]
    exact rel_vOf pv
theorem pe_dnewN : PE X (.Dict [] [] pos) (tNNew X) := ⟨fun pins s σ H Q I h => by
  have big := I.big
  refine wpAny_Dict_empty ⟨.ref s.heap.objs.size, _, I.laid (a := s.heap.objs.size) (o := DN X.prog X.w s.heap.objs.size []) (t' := s.toks) (fun _ _ q => Heap.get?_push_of_some _ q) (Nat.le_refl _) (dn_new ?_), rfl, h _ (I.hok.fresh (Nat.le_refl _))⟩
  exact ⟨_, #[], 0, Heap.get?_push_size _ rfl, ⟨rfl, rfl, rfl⟩, rfl, rfl, beq_eq_false_iff_ne.mpr (Ne.symm (Nat.ne_of_lt big))⟩⟩
theorem DnOk.empty {H : Hp} {a : Addr} (e : H a = some (DN X.prog X.w a [])) : DnOk X H a [] := ⟨e, fun _ m => (by cases m), List.nodup_nil, fun _ m => (by cases m), Nat.zero_le _⟩
/-- the dict stands, the tuples stand -/
theorem DnOk.mono {H H' : Hp} {a : Addr} {xs : List NEnt} (d : DnOk X H a xs) (e : H' a = H a) (t : Tps H H') : DnOk X H' a xs := ⟨e.trans d.at_, fun x m => ⟨(d.keys x m).1.mono t, (d.keys x m).2⟩, d.nd, d.vals, d.len⟩

/-! ### sorted(d), d a dict of nested tuples -/
theorem vals_refs : ∀ xs : List NEnt, Vals (xs.map ((fun b : V × NestedKey => b.1) ∘ fun x => (V.ref x.2.1, x.1))) (xs.map fun x => Value.ref x.2.1)
  | [] => .nil
  | x :: xs => .cons rfl (vals_refs xs)
def rSortN (X : Cx) : List V → Hp → VK → Prop := fun vs H Q => ∃ (a : Addr) (xs : List NEnt), vs = [.ref a] ∧ DnOk X H a xs ∧ rSrt (xs.map fun x => (V.ref x.2.1, x.1)) H Q
theorem call_sortedN (hu : X.A.units + 64 < cLine) (hc : X.calm = true) : CallR X (.builtin "sorted") (rSortN X) := by
  intro pins s σ H vs us Q I r h
  obtain ⟨a, xs, rfl, d, q⟩ := h
  obtain ⟨u, rfl, ru⟩ := vals1 r
  cases ru
  obtain ⟨o, es, ep, ho, ex, hd, he, sm⟩ := (I.hok a _ d.at_).1
  have raw : s.heap.DictRaw a es ep := ⟨o, ho, ex, hd⟩
  have esz : es.size = xs.length := by rw [← Array.length_toList, he, List.length_map]
  have hz : es.size ≤ sizeLine := by rw [esz]; exact Nat.le_trans d.len (by decide)
  refine sorted_open (H := H) hu (PySem.W.kdu_collect (A := X.A.in1) (KdlSrc.rawDict sm) (I.ok.hd hc) raw hz fun h' tk acc k ia => ?_)
  refine ⟨_, I.kept k, ?_, q⟩
  have el : acc.toList = xs.map fun x => Value.ref x.2.1 := by
    refine List.ext_getElem? fun j => ?_
    by_cases hj : j < xs.length
    · have hja : j < acc.size := by rw [ia.1, esz]; exact hj
      have e1 : acc[j]? = some acc[j] := Array.getElem?_eq_getElem hja
      obtain ⟨hi, e2⟩ := ia.2 j acc[j] e1
      rw [Array.getElem?_toList, e1, e2]
      have e3 : es.toList[j]? = some es[j] := by rw [Array.getElem?_toList]; exact Array.getElem?_eq_getElem hi
      rw [he, List.getElem?_map, List.getElem?_eq_getElem hj] at e3
      rw [List.getElem?_map, List.getElem?_eq_getElem hj]
      have e4 := Option.some.inj e3
      rw [← e4] <;> rfl
    · rw [List.getElem?_eq_none (by rw [Array.length_toList, ia.1, esz]; omega), List.getElem?_eq_none (by rw [List.length_map]; omega)]
  rw [el, List.map_map]
  exact vals_refs xs
end
end Pk
namespace Pk
set_option autoImplicit false
set_option maxRecDepth 100000
set_option maxHeartbeats 2000000
open PySem PySem.Spec PyProof.Rows L2
section
variable {X : Cx}
/-- tuple(xs) of a list: the new tuple known to its very object -/
def rTupF (K : PySem.W.Frag) : List V → Hp → VK → Prop := fun xs H Q => ∃ p ys, xs = [.ref p] ∧ SqL K H p ys ∧ ∀ (l : Addr) (o : Obj), H l = none → o.dict = none → Q (.ref l) (upd H l (.frz o (.tup ys)))
theorem call_tupleF : CallR X (.type "tuple") (rTupF X.K) := by
  intro pins s σ H xs us Q I r h
  obtain ⟨p, ys, rfl, hq, q⟩ := h
  obtain ⟨u, rfl, rx⟩ := vals1 r
  cases rx
  obtain ⟨its, rv, pl, hz⟩ := I.list hq
  have len := rv.length
  refine call_tuple_list pl.isList (fun h' kp => ?_) (by simp only [List.size_toArray] <;> omega)
  have I1 : Inv X pins σ H { s with heap := h' } := I.kept (t' := s.toks) kp
  have here : (h'.push ({ cls := .type "tuple", data := .seq its.toArray } : Obj)).get? h'.objs.size = some { cls := .type "tuple", data := .seq its.toArray } := Heap.get?_push_size _ rfl
  have I2 := I1.laid (a := h'.objs.size) (o := .frz { cls := .type "tuple", data := .seq its.toArray } (.tup ys)) (h' := h'.push { cls := .type "tuple", data := .seq its.toArray }) (t' := s.toks) (fun b o e => Heap.get?_push_of_some _ e) (Nat.le_refl _)
    (show ObjOk X.prog X.w _ _ _ (.frz _ (.tup ys)) from ⟨here, hz, its, rv, IsTup.new _ _⟩)
  exact ⟨.ref h'.objs.size, _, I2, rfl, q _ _ (I1.hok.fresh (Nat.le_refl _)) rfl⟩
/-- isinstance(t, tuple), t a tuple; isinstance(x, str), x a text -/
def rIsTS (K : PySem.W.Frag) : List V → Hp → VK → Prop := fun xs H Q => ∃ x, ((∃ a ys, x = V.ref a ∧ SqT K H a ys ∧ xs = [x, .ty "tuple"]) ∨ ∃ z, x = V.str z ∧ xs = [x, .ty "str"]) ∧ Q (.bl true) H
theorem call_isTS : CallR X (.builtin "isinstance") (rIsTS X.K) := by
  intro pins s σ H xs us Q I r h
  obtain ⟨x, c, q⟩ := h
  rcases c with ⟨a, ys, rfl, hs, rfl⟩ | ⟨z, rfl, rfl⟩
  · obtain ⟨u, v, rfl, ru, rv⟩ := vals2 r
    cases ru
    cases rv
    obtain ⟨its, _, ⟨o, ho, hc, n, hd⟩, _⟩ := I.tuple hs
    have tx : s.TypeIs (.ref a) "tuple" := ⟨o, ho, hc⟩
    exact PySem.W.kia_one PySem.W.kitx_tuple I.kIn ⟨o, ho, hc⟩ (b := true) (if_pos (beq_self_eq_true _)) (fun z => nomatch z) fun tk => ⟨.bl true, H, I.kept (t' := tk) fun _ _ z => z, rfl, q⟩
  · obtain ⟨u, v, rfl, ⟨t, rfl⟩, rv⟩ := vals2 r
    cases rv
    exact PySem.W.kia_one PySem.W.kitx_str I.kIn True.intro (b := true) (if_pos (beq_self_eq_true _)) (fun z => nomatch z) fun tk => ⟨.bl true, H, I.kept (t' := tk) fun _ _ z => z, rfl, q⟩
/-- dict(xs) of a tuple of pairs -/
def rDictT : List V → Hp → VK → Prop := fun xs H Q => ∃ (a : Addr) (o : Obj) (ps : List Addr) (kvs : List (Key × V)), xs = [.ref a] ∧ H a = some (.frz o (.tup (ps.map V.ref))) ∧ o.dict = none ∧ Paired (fun p kv => H p = some (.tup [kV kv.1, kv.2])) ps kvs ∧ ps.length ≤ 100000 ∧
  ∀ p, H p = none → Q (.ref p) (upd H p (.dK (mergeK [] kvs)))
theorem call_dictT (hc : X.calm = true) : CallR X (.type "dict") rDictT := by
  intro pins s σ H xs us Q I r h
  obtain ⟨a, o, ps, kvs, rfl, ha, od, hp, hl, q⟩ := h
  obtain ⟨u, rfl, rx⟩ := vals1 r
  cases rx
  obtain ⟨ho, _, its, rv, ⟨o', ho', hcl, n, hd⟩⟩ := (show ObjOk X.prog X.w H s.heap a (.frz o (.tup (ps.map V.ref))) from I.hok _ _ ha)
  rw [ho] at ho'
  cases ho'
  obtain rfl := refs_at rv
  obtain ⟨prs, rel, el, hpr⟩ := pairs_of I (L2.Paired.mapP hp fun p kv e => (.inl (.inl e) : SqT X.K H p [kV kv.1, kv.2]))
  -- the pairs as values
  have key : ∀ j : Nat, ∀ q : Key × Value, prs[j]? = some q → ∃ u, IsTup s.heap (ps.getD j 0) #[u, q.2] ∧ keyIs q.1 u = true := fun j q e => by
    obtain ⟨b, u, e1, e2, e3⟩ := hpr j q e
    exact ⟨u, by rw [List.getD_eq_getElem?_getD, e1]; exact e2, e3⟩
  obtain ⟨pv, lv, hv⟩ : ∃ pv : List (Value × Value), pv.length = prs.length ∧ ∀ (j : Nat) (x : Value × Value), pv[j]? = some x → ∃ q, prs[j]? = some q ∧ x.2 = q.2 ∧ keyIs q.1 x.1 = true ∧ IsTup s.heap (ps.getD j 0) #[x.1, x.2] := by
    clear hp rel el hpr
    have gen : ∀ (n : Nat) (l : List (Key × Value)), (∀ (j : Nat) (q : Key × Value), l[j]? = some q → ∃ u, IsTup s.heap (ps.getD (n + j) 0) #[u, q.2] ∧ keyIs q.1 u = true) →
        ∃ pv : List (Value × Value), pv.length = l.length ∧ ∀ (j : Nat) (x : Value × Value), pv[j]? = some x → ∃ q, l[j]? = some q ∧ x.2 = q.2 ∧ keyIs q.1 x.1 = true ∧ IsTup s.heap (ps.getD (n + j) 0) #[x.1, x.2] := by
      intro n l
      induction l generalizing n with
      | nil => exact fun _ => ⟨[], rfl, fun j x e => by simp at e⟩
      | cons y l ih =>
        intro hk
        obtain ⟨u, t1, t2⟩ := hk 0 y rfl
        obtain ⟨pv, e1, e2⟩ := ih (n + 1) fun j q e => by
          have := hk (j + 1) q (by simpa using e)
          rw [show n + (j + 1) = n + 1 + j by omega] at this
          exact this
        refine ⟨(u, y.2) :: pv, by simp [e1], fun j x e => ?_⟩
        cases j with
        | zero =>
          have e' : (u, y.2) = x := Option.some.inj e
          subst e'
          exact ⟨y, rfl, rfl, t2, t1⟩
        | succ j =>
          obtain ⟨q, a1, a2, a3, a4⟩ := e2 j x (by simpa using e)
          rw [show n + 1 + j = n + (j + 1) by omega] at a4
          exact ⟨q, by simpa using a1, a2, a3, a4⟩
    obtain ⟨pv, e1, e2⟩ := gen 0 prs fun j q e => by rw [Nat.zero_add]; exact key j q e
    exact ⟨pv, e1, fun j x e => by have := e2 j x e; rwa [Nat.zero_add] at this⟩
  have lps : pv.length = ps.length := by rw [lv, el]
  refine PySem.call_dict_pairs (knd := mixKind X.prog X.w) (kvs := prs) (PairArg.tuple a (ps.map Value.ref).toArray (fun j => ps.getD j 0) pv) (I.ok.hd hc) ⟨⟨o, n, ho, hcl, od, hd⟩, ?_, fun j k v e => ?_⟩ ⟨by rw [lv], fun i kk v e => ?_⟩ (by rw [lps, sizeLine_eq]; omega) fun h' tk hd' k => ?_
  · simp [lps]
  · obtain ⟨q, e1, e2, e3, e4⟩ := hv j (k, v) e
    have hj : j < ps.length := by rw [← lps]; exact (List.getElem?_eq_some_iff.mp e).1
    refine ⟨?_, .inl ?_⟩
    · show (ps.map Value.ref).toArray[j]? = some (Value.ref (ps.getD j 0))
      rw [List.getElem?_toArray, List.getElem?_map, List.getD_eq_getElem?_getD, List.getElem?_eq_getElem hj] <;> rfl
    · exact e4
  · obtain ⟨q, e1, e2, e3, e4⟩ := hv i (kk, v) e
    exact ⟨q.1, by rw [e1]; exact congrArg some (Prod.ext rfl e2.symm), e3⟩
  · have hm : (s.heap.objs.size == sysModules) = false := beq_eq_false_iff_ne.mpr (Nat.ne_of_gt I.big)
    have hlen : (mergeK [] kvs).length ≤ sizeLine := by
      refine Nat.le_trans (length_mergeK kvs []) ?_
      rw [List.length_nil, Nat.zero_add, rel.length, el, sizeLine_eq]
      omega
    have rel2 : KV (mergeK [] kvs) (merged [] prs) := KV.merge rel .nil
    exact ⟨.ref s.heap.objs.size, _, I.laid (t' := tk) (fun b o e => k b o (by simp) e) (Nat.le_refl _) (show ObjOk X.prog X.w _ _ _ (.dK (mergeK [] kvs)) from ⟨hlen, hm, _, rel2, hd'⟩), rfl, q _ (I.hok.fresh (Nat.le_refl _))⟩
end
end Pk
namespace Pk
set_option autoImplicit false
set_option maxRecDepth 100000
set_option maxHeartbeats 2000000
open PySem PySem.Spec PyProof.Rows L2
mutual
/-- all its texts are such as the model lays out -/
def okK : NestedKey → Prop
  | .none => True
  | .num _ => True
  | .text x => PyData.strOk x = true
  | .tup ks => okKs ks
def okKs : List NestedKey → Prop
  | [] => True
  | k :: ks => okK k ∧ okKs ks
end
mutual
theorem canLay_key : ∀ k : NestedKey, okK k → k.data.canLay0 = true
  | .none, _ => rfl
  | .num _, _ => rfl
  | .text _, h => by
    simp only [okK] at h
    exact h
  | .tup ks, h => by
    simp only [okK] at h
    exact canLay_keys ks h
theorem canLay_keys : ∀ ks : List NestedKey, okKs ks → PyData.canLayAll0 (NestedKey.datas ks) = true
  | [], _ => rfl
  | k :: ks, h => by
    simp only [okKs] at h
    show (k.data.canLay0 && PyData.canLayAll0 (NestedKey.datas ks)) = true
    rw [canLay_key k h.1, canLay_keys ks h.2] <;> rfl
end
mutual
theorem depth_key : ∀ k : NestedKey, k.data.depth = k.depth
  | .none => rfl
  | .num _ => rfl
  | .text _ => rfl
  | .tup ks => by
    show PyData.depthAll (NestedKey.datas ks) + 1 = NestedKey.depthAll ks + 1
    rw [depth_keys ks]
theorem depth_keys : ∀ ks : List NestedKey, PyData.depthAll (NestedKey.datas ks) = NestedKey.depthAll ks
  | [] => rfl
  | k :: ks => by
    show max k.data.depth (PyData.depthAll (NestedKey.datas ks)) = max k.depth (NestedKey.depthAll ks)
    rw [depth_key k, depth_keys ks]
end
theorem okKs_of {ks : List NestedKey} (h : ∀ k ∈ ks, okK k) : okKs ks := by
  induction ks with
  | nil => simp only [okKs]
  | cons k ks ih => simp only [okKs]; exact ⟨h k List.mem_cons_self, ih fun j m => h j (List.mem_cons_of_mem _ m)⟩
theorem shaped_key {k : NestedKey} (h : k.depth ≤ 60) (o : okK k) : SeqAt.shaped k.data = true := by
  unfold SeqAt.shaped
  rw [canLay_key k o, depth_key, Bool.true_and, decide_eq_true_eq]
  omega
theorem shaped_list {ks : List NestedKey} (h : NestedKey.depthAll ks ≤ 60) (o : okKs ks) : SeqAt.shaped (.list (NestedKey.datas ks)) = true := by
  unfold SeqAt.shaped
  rw [show PyData.canLay0 (.list (NestedKey.datas ks)) = PyData.canLayAll0 (NestedKey.datas ks) from rfl, canLay_keys ks o, show PyData.depth (.list (NestedKey.datas ks)) = PyData.depthAll (NestedKey.datas ks) + 1 from rfl, depth_keys, Bool.true_and, decide_eq_true_eq]
  omega
theorem shaped_tuple {ks : List NestedKey} (h : NestedKey.depthAll ks ≤ 60) (o : okKs ks) : SeqAt.shaped (.tuple (NestedKey.datas ks)) = true := by
  unfold SeqAt.shaped
  rw [show PyData.canLay0 (.tuple (NestedKey.datas ks)) = PyData.canLayAll0 (NestedKey.datas ks) from rfl, canLay_keys ks o, show PyData.depth (.tuple (NestedKey.datas ks)) = PyData.depthAll (NestedKey.datas ks) + 1 from rfl, depth_keys, Bool.true_and, decide_eq_true_eq]
  omega
theorem depthAll_le {ks : List NestedKey} {n : Nat} (h : ∀ k ∈ ks, k.depth ≤ n) : NestedKey.depthAll ks ≤ n := by
  induction ks with
  | nil => exact Nat.zero_le _
  | cons k ks ih =>
    show max k.depth (NestedKey.depthAll ks) ≤ n
    exact Nat.max_le.mpr ⟨h k List.mem_cons_self, ih fun j m => h j (List.mem_cons_of_mem _ m)⟩
theorem eqv_key {k : NestedKey} (o : okK k) : PyData.eqv k.data k.data = true := SeqAt.eqv_refl _ (canLay_key k o)
theorem eqv_list {ks : List NestedKey} (o : okKs ks) : PyData.eqv (.list (NestedKey.datas ks)) (.list (NestedKey.datas ks)) = true := SeqAt.eqv_refl _ (canLay_keys ks o)
section
variable {X : Cx}
/-- a list of data as data -/
theorem dp_list {K : PySem.W.Frag} {H : Hp} {a : Addr} {vs : List V} {ks : List NestedKey} (h : SqL K H a vs) (r : DnAll H vs ks) : Dp K H (.ref a) (.list (NestedKey.datas ks)) := .lst h r.dp
/-- x not in t, where t has it -/
def rNotInT (K : PySem.W.Frag) : R2 := fun x y H Q => ∃ (p : Addr) (vs : List V) (ks : List NestedKey) (k : NestedKey), y = .ref p ∧ SqT K H p vs ∧ DnAll H vs ks ∧ Dn H x k ∧ k.depth ≤ 60 ∧ NestedKey.depthAll ks ≤ 60 ∧ okKs ks ∧ okK k ∧ k ∈ ks ∧ Q (.bl false) H
theorem op_notInT (hu : X.A.units + 64 < cLine) : OpR X (compareOp .NotIn) (rNotInT X.K) := by
  intro pins s σ H x y v u Q I rx ry h
  obtain ⟨p, vs, ks, k, rfl, hs, hd, hk, dk, dks, oks, ok, mk, q⟩ := h
  obtain ⟨as, r1⟩ := Dp.reads I k.data x v hk.dp rx
  obtain ⟨bs, r2⟩ := Dp.reads I (.tuple (NestedKey.datas ks)) (.ref p) u (.tup hs hd.dp) ry
  refine SeqAt.notIn_tuple_reads r2 r1 (canLay_keys ks oks) (canLay_key k ok) ?_ ⟨.bl false, H, I, ?_, q⟩
  · rw [depth_key, depth_keys]
    omega
  · have e : (NestedKey.datas ks).any (fun z => PyData.eqv z k.data) = true := by
      rw [datas_map]
      exact List.any_eq_true.mpr ⟨k.data, List.mem_map.mpr ⟨k, mk, rfl⟩, eqv_key ok⟩
    rw [e]
    rfl
end
end Pk
namespace Pk
set_option autoImplicit false
set_option maxRecDepth 100000
set_option maxHeartbeats 3200000
open PySem PySem.Spec PyProof.Rows L2
section
variable {P : Program} {w : World} {A : Around} {E : Value → Shared → Prop} {s : Shared}
/-- the set that is made first -/
def set0 (w : World) : Obj := { cls := .type "set", dict := none, data := .set #[] 0 (.fresh 0 0 (!w.params.followText "set-order")) }
/-- set(v): the fresh set, then its __init__ -/
theorem set_call {v : Value} {Q : Value → Shared → Prop}
    (h : wpAny (model P w) A.in1.in1 (Builtin.«set.__init__» ⟨[.ref s.heap.objs.size, v], []⟩) (fun fin s₂ => fin = .done (.ret .none) ∧ Q (.ref s.heap.objs.size) s₂) E { s with heap := s.heap.push (set0 w) }) :
    wpAny (model P w) A (call (.type "set") [v]) Q E s := by
  obtain ⟨c, tl, hmro⟩ := F.called_set.mro
  have hmade := F.called_set.made
  have hsub := F.called_set.sub
  refine wpAny_call (codeAny_of_tree ?_)
  show wpAny _ _ (callAny (.type "set") _) _ _ _
  refine wpAny_pure ⟨Code.quiet_builtin _ (by decide +kernel), codeAny_builtin F.entry_type_call ?_⟩
  rw [Around.under_plain (weight_type_call_type "set" [v] []) rfl]
  have h1 := F.called_set.notType
  have h2 := F.called_set.canCreate
  have hct := F.typeCall_set_1 v
  repeat (any_goals (first | assumption | wp_step))
  refine codeAny_mono (code_set_led1 v (E := E) (Q₁ := fun obj s₁ => obj = .ref s.heap.objs.size ∧ s₁ = { s with heap := s.heap.push (set0 w) }) ⟨rfl, rfl⟩) fun r s₁ hr => ?_
  cases r with
  | error e => exact hr
  | ok fl =>
    cases fl with
    | ret obj =>
      obtain ⟨rfl, rfl⟩ := hr
      have hS : (s.heap.push (set0 w)).get? s.heap.objs.size = some (set0 w) := Heap.get?_push_size _ rfl
      have hT : Shared.TypeIs { s with heap := s.heap.push (set0 w) } (.ref s.heap.objs.size) "set" := ⟨_, hS, rfl⟩
      have hli := F.called_set.init.lookup
      have hbi := F.called_set.init.bind (.ref s.heap.objs.size)
      repeat (any_goals (first | assumption | wp_step))
      refine codeAny_mono (codeAny_call_builtin (R := wants (fun r s₂ => r = .none ∧ Q (.ref s.heap.objs.size) s₂) E) F.called_set.init.plain F.entry_set_init (check_set_init_1 hT ?_)) fun r₂ s₂ hr₂ => ?_
      · refine wpAny_mono h (fun fin s₂ ⟨e, q⟩ => ?_) fun _ _ e => e
        subst e
        exact ⟨rfl, q⟩
      · cases r₂ with
        | error e => exact hr₂
        | ok fl₂ =>
          cases fl₂ with
          | ret r =>
            obtain ⟨rfl, q⟩ := hr₂
            repeat (any_goals (first | assumption | wp_step))
          | _ => exact hr₂.elim
    | _ => exact hr.elim
end
end Pk
namespace Pk
set_option autoImplicit false
set_option maxRecDepth 100000
set_option maxHeartbeats 3200000
open PySem PySem.Spec PyProof.Rows L2
section
variable {P : Program} {w : World} {A : Around} {E : Value → Shared → Prop} {s : Shared}
/-- what the set at S is behind i items: told by the heap alone, over the objects h0 that stand; one item more is added -/
structure Adds (P : Program) (w : World) (A : Around) (S : Addr) (h0 : Heap) (us : List Value) (St : Nat → Heap → Prop) : Prop where
  new : h0.get? S = none
  keep : ∀ i h h', St i h → (∀ o, h.get? S = some o → h'.get? S = some o) → (∀ b o, h0.get? b = some o → h'.get? b = some o) → St i h'
  old : ∀ i h, St i h → ∀ b o, h0.get? b = some o → h.get? b = some o
  add : ∀ i u (s : Shared) (Q : Bool → Shared → Prop) (E : Value → Shared → Prop), us[i]? = some u → St i s.heap →
    (∀ b h' tk, Heap.SameBut S s.heap h' → s.toks ≤ tk → St (i + 1) h' → Q b { s with heap := h', toks := tk }) → wpAny (model P w) A (setAdd S u) Q E s
theorem set_loop {I : Addr} {fp wr : List Addr} {G : Array GenState → Array GenState → Prop} {n : Nat} {Pv : Nat → Value → Prop} {Wt : Nat → Shared → Prop} {R : Result → Shared → Prop} {S : Addr} {h0 : Heap} {us : List Value} {St : Nat → Heap → Prop}
    (W : WalksS P w A.in1 I fp wr G n Pv Wt) (hSf : S ∉ fp) (hv : ∀ i v, Pv i v → us[i]? = some v) (hw0 : ∀ b ∈ wr, h0.get? b = none) (ad : Adds P w A.in1 S h0 us St) :
    ∀ (k i : Nat) (s : Shared), n - i = k → i ≤ n → Wt i s → St i s.heap →
      (∀ s', Moved (S :: wr) G s s' → St n s'.heap → R (.ok (.ret .none)) s') → codeAny (model P w) A (.builtin "set.update.loop" ⟨[.ref S, .ref I], []⟩) R s := by
  have nS : S ∉ wr := fun m => hSf (W.sub _ m)
  have lift : ∀ b ∈ wr, b ∈ S :: wr := fun b m => List.mem_cons_of_mem _ m
  have move : ∀ {i : Nat} {s s' : Shared}, Moved wr G s s' → St i s.heap → St i s'.heap := fun {i s s'} mv st =>
    ad.keep i _ _ st (fun o e => mv.heap S o nS e) fun b o e => mv.heap b o (fun m => by rw [hw0 b m] at e; cases e) (ad.old i _ st b o e)
  intro k
  induction k with
  | zero =>
    intro i s hk hi wt st fin
    obtain rfl : i = n := by omega
    refine codeAny_builtin F.entry_set_update_loop ?_
    rw [Around.under_plainId F.plain_set_update_loop _]
    show wpAny _ A.in1 (pyNext (.ref I) >>= _) _ _ s
    refine wpAny_bind (W.done s _ _ wt fun s' mv => ?_)
    show wpAny _ A.in1 (ret Value.none) _ _ s'
    exact wpAny_pure (fin s' (mv.mono lift) (move mv st))
  | succ k ih =>
    intro i s hk hi wt st fin
    have lt : i < n := by omega
    refine codeAny_builtin F.entry_set_update_loop ?_
    rw [Around.under_plainId F.plain_set_update_loop _]
    show wpAny _ A.in1 (pyNext (.ref I) >>= _) _ _ s
    refine wpAny_bind (W.item i s _ _ lt wt fun v s' pv wt' mv => ?_)
    show wpAny _ A.in1 (holding [v] (setAdd S v) >>= _) _ _ s'
    refine wpAny_bind (wpAny_holding ?_)
    refine ad.add i v s' _ _ (hv i v pv) (move mv st) fun b h' tk sb ht st' => ?_
    refine wpAny_pure ⟨plainId_quiet F.plain_set_update_loop _, ih (i + 1) _ (by omega) lt (W.frame _ s' _ _ wt' ht fun c m o e => ?_) st' fun s2 mv2 st2 => ?_⟩
    · rw [sb.2 c (fun z : c = S => hSf (z ▸ m))]; exact e
    · refine fin s2 (Moved.trans W.gtrans ((mv.mono lift).then_heap ht fun c o m e => ?_) mv2) st2
      rw [sb.2 c (fun z : c = S => m (z ▸ List.mem_cons_self))]; exact e

theorem none_past {h : Heap} {b : Addr} (hb : h.objs.size ≤ b) : h.get? b = none := by
  cases q : h.get? b with
  | none => rfl
  | some o => exact absurd (Nat.lt_of_lt_of_le (Heap.lt_size q) hb) (Nat.lt_irrefl _)
/-- set(xs), xs a list -/
theorem set_of_list {l : Addr} {items : Array Value} {St : Nat → Heap → Prop} {Q : Value → Shared → Prop} (hh : A.handled = none) (hl : s.heap.IsList l items)
    (ad : Adds P w A.in1.in1.in1 s.heap.objs.size s.heap items.toList St) (h0 : ∀ h, h.get? s.heap.objs.size = some (set0 w) → (∀ b o, s.heap.get? b = some o → h.get? b = some o) → St 0 h)
    (h : ∀ (h' : Heap) (tk : Nat), St items.size h' → (∀ b o, s.heap.get? b = some o → h'.get? b = some o) → Q (.ref s.heap.objs.size) { s with heap := h', toks := tk }) :
    wpAny (model P w) A (call (.type "set") [.ref l]) Q E s := by
  refine set_call ?_
  obtain ⟨ol, hol, hcl, nl, hdl⟩ := hl
  obtain ⟨ocls, odict, odata, oslots⟩ := ol
  simp only at hcl hdl
  subst hcl; subst hdl
  have hol' : (s.heap.push (set0 w)).get? l = some { cls := .type "list", dict := odict, data := .seq items nl, slots := oslots } := Heap.get?_push_of_some _ hol
  have hS : (s.heap.push (set0 w)).get? s.heap.objs.size = some (set0 w) := Heap.get?_push_size _ rfl
  have hT : Shared.TypeIs { s with heap := s.heap.push (set0 w) } (.ref s.heap.objs.size) "set" := ⟨_, hS, rfl⟩
  have hsls := F.sub_list_set
  have hslf := F.sub_list_frozenset
  have hne : (Value.type "list" == Value.type "dict") = false := by decide
  have hl1 : (s.heap.push (set0 w)).IsList l items := ⟨_, hol', rfl, nl, rfl⟩
  unfold Builtin.«set.__init__» noKeywords Builtin.Frozenset.updateFrom
  generalize hPI : pyIter = PI
  wp_walk
  subst hPI
  refine wpAny_pyIter_list hl1 ?_
  refine wpAny_bind (wpAny_runValue ?_)
  have lt : l < s.heap.objs.size := Heap.lt_size hol
  have hh3 : A.in1.in1.in1.handled = none := by simp [hh]
  have hneI : l ≠ (s.heap.push (set0 w)).objs.size := by rw [Heap.size_push]; exact Nat.ne_of_lt (Nat.lt_succ_of_lt lt)
  have hSf : s.heap.objs.size ∉ [(s.heap.push (set0 w)).objs.size, l] := by
    rw [Heap.size_push]; simp only [List.mem_cons, List.not_mem_nil, or_false, not_or]
    exact ⟨Nat.ne_of_lt (Nat.lt_succ_self _), Nat.ne_of_gt lt⟩
  refine set_loop ((Walks.list hh3 _ l hneI items).toS) hSf (fun i v e => by rw [Array.getElem?_toList]; exact e) (fun b m => none_past (by rw [List.mem_singleton.mp m, Heap.size_push]; exact Nat.le_succ _)) ad
    (items.size - 0) 0 _ (by omega) (Nat.zero_le _) ⟨⟨_, Heap.get?_push_size _ rfl, rfl, rfl⟩, hl1.push _⟩ (h0 _ (Heap.get?_push_of_some _ hS) fun b o e => Heap.get?_push_of_some _ (Heap.get?_push_of_some _ e)) fun s' mv st => ?_
  obtain ⟨h', g', d', tk', os'⟩ := s'
  obtain rfl : g' = s.gens := mv.gens
  obtain rfl : d' = s.drawn := mv.drawn
  obtain rfl : os' = s.os := mv.os
  show wpAny _ _ _ _ _ _
  refine wpAny_pure ?_
  show wpAny _ _ (ret Value.none) _ _ _
  exact wpAny_pure ⟨rfl, h h' tk' st (ad.old _ _ st)⟩
/-- set(xs), xs a tuple -/
theorem set_of_tuple {l : Addr} {items : Array Value} {St : Nat → Heap → Prop} {Q : Value → Shared → Prop} (hh : A.handled = none) (hl : s.heap.IsTuple l items)
    (ad : Adds P w A.in1.in1.in1 s.heap.objs.size s.heap items.toList St) (h0 : ∀ h, h.get? s.heap.objs.size = some (set0 w) → (∀ b o, s.heap.get? b = some o → h.get? b = some o) → St 0 h)
    (h : ∀ (h' : Heap) (tk : Nat), St items.size h' → (∀ b o, s.heap.get? b = some o → h'.get? b = some o) → Q (.ref s.heap.objs.size) { s with heap := h', toks := tk }) :
    wpAny (model P w) A (call (.type "set") [.ref l]) Q E s := by
  refine set_call ?_
  obtain ⟨ol, hol, hcl, nl, hdl⟩ := hl
  obtain ⟨ocls, odict, odata, oslots⟩ := ol
  simp only at hcl hdl
  subst hcl; subst hdl
  have hol' : (s.heap.push (set0 w)).get? l = some { cls := .type "tuple", dict := odict, data := .seq items nl, slots := oslots } := Heap.get?_push_of_some _ hol
  have hS : (s.heap.push (set0 w)).get? s.heap.objs.size = some (set0 w) := Heap.get?_push_size _ rfl
  have hT : Shared.TypeIs { s with heap := s.heap.push (set0 w) } (.ref s.heap.objs.size) "set" := ⟨_, hS, rfl⟩
  have hsls := F.sub_tuple_set
  have hslf := F.sub_tuple_frozenset
  have hne : (Value.type "tuple" == Value.type "dict") = false := by decide
  have hl1 : (s.heap.push (set0 w)).IsTuple l items := ⟨_, hol', rfl, nl, rfl⟩
  unfold Builtin.«set.__init__» noKeywords Builtin.Frozenset.updateFrom
  generalize hPI : pyIter = PI
  wp_walk
  subst hPI
  refine wpAny_pyIter_tuple hl1 ?_
  refine wpAny_bind (wpAny_runValue ?_)
  have lt : l < s.heap.objs.size := Heap.lt_size hol
  have hh3 : A.in1.in1.in1.handled = none := by simp [hh]
  have hneI : l ≠ (s.heap.push (set0 w)).objs.size := by rw [Heap.size_push]; exact Nat.ne_of_lt (Nat.lt_succ_of_lt lt)
  have hSf : s.heap.objs.size ∉ [(s.heap.push (set0 w)).objs.size, l] := by
    rw [Heap.size_push]; simp only [List.mem_cons, List.not_mem_nil, or_false, not_or]
    exact ⟨Nat.ne_of_lt (Nat.lt_succ_self _), Nat.ne_of_gt lt⟩
  refine set_loop ((Walks.tuple hh3 _ l hneI items).toS) hSf (fun i v e => by rw [Array.getElem?_toList]; exact e) (fun b m => none_past (by rw [List.mem_singleton.mp m, Heap.size_push]; exact Nat.le_succ _)) ad
    (items.size - 0) 0 _ (by omega) (Nat.zero_le _) ⟨⟨_, Heap.get?_push_size _ rfl, rfl, rfl⟩, ?_⟩ (h0 _ (Heap.get?_push_of_some _ hS) fun b o e => Heap.get?_push_of_some _ (Heap.get?_push_of_some _ e)) fun s' mv st => ?_
  · exact ⟨_, Heap.get?_push_of_some _ hol', rfl, nl, rfl⟩
  obtain ⟨h', g', d', tk', os'⟩ := s'
  obtain rfl : g' = s.gens := mv.gens
  obtain rfl : d' = s.drawn := mv.drawn
  obtain rfl : os' = s.os := mv.os
  show wpAny _ _ _ _ _ _
  refine wpAny_pure ?_
  show wpAny _ _ (ret Value.none) _ _ _
  exact wpAny_pure ⟨rfl, h h' tk' st (ad.old _ _ st)⟩
end
end Pk
namespace Pk
set_option autoImplicit false
set_option maxRecDepth 100000
set_option maxHeartbeats 3200000
open PySem PySem.Spec PyProof.Rows L2
/-! ### sets of texts -/
def txt (e : Int × Value) : Str := match e.2 with
  | .str x _ => x
  | _ => Str.empty
def IsTxt (w : World) (e : Int × Value) : Prop := ∃ (x : Str) (tk : Tok), e.2 = Value.str x tk ∧ e.1 = hashStr w x
structure TEnt (w : World) (es : Array (Int × Value)) (xs : List Str) : Prop where
  good : ∀ e ∈ es.toList, IsTxt w e
  nd : (es.toList.map txt).Nodup
  mem : ∀ x, x ∈ es.toList.map txt ↔ x ∈ xs
/-- a table that can be walked -/
structure TabW (w : World) (t : SetTable) (n : Nat) : Prop where
  small : n < scanBound
  fits : t.fits n = true
  ris : Ris t.place.toList
  led : w.params.followText "set-order" = true ∨ t.led = true
def TSet (w : World) (h : Heap) (a : Addr) (xs : List Str) : Prop :=
  ∃ (o : Obj) (es : Array (Int × Value)) (ep : Nat) (t : SetTable), h.get? a = some o ∧ o.ExactSet ∧ o.data = .set es ep t ∧ TEnt w es xs ∧ TabW w t es.size
section
variable {P : Program} {w : World} {A : Around} {E : Value → Shared → Prop} {s : Shared} {a : Addr} {xs : List Str}
theorem nat_le_of {α : Type} [DecidableEq α] : ∀ (l D : List α), l.Nodup → (∀ x ∈ l, x ∈ D) → l.length ≤ D.length
  | [], _, _, _ => Nat.zero_le _
  | x :: l, D, h, sub => by
    obtain ⟨h1, h2⟩ := List.nodup_cons.mp h
    have mx : x ∈ D := sub x List.mem_cons_self
    have q := nat_le_of l (D.erase x) h2 fun y m => (List.mem_erase_of_ne (fun e : y = x => h1 (e ▸ m))).mpr (sub y (List.mem_cons_of_mem _ m))
    rw [List.length_erase_of_mem mx] at q
    have := List.length_pos_of_mem mx
    rw [List.length_cons]; omega
theorem IsTxt.elem {e : Int × Value} (g : IsTxt w e) : (∃ k, (PySem.strKind P w).is k e.2 = true ∧ e.1 = (PySem.strKind P w).hash k) ∧ e.2.scannable = true := by
  obtain ⟨x, tk, e2, e1⟩ := g
  refine ⟨⟨x, by rw [e2]; exact strKind_is P w x tk, e1⟩, by rw [e2]; rfl⟩
theorem IsTxt.key {e : Int × Value} (g : IsTxt w e) (x : Str) : (PySem.strKind P w).is x e.2 = true ↔ txt e = x := by
  obtain ⟨y, tk, e2, _⟩ := g
  unfold txt
  rw [e2]
  constructor
  · intro h
    exact (PySem.strKind P w).inj (.str y tk) y x (strKind_is P w y tk) h
  · intro h
    rw [← h]; exact strKind_is P w y tk
theorem TEnt.elems {es : Array (Int × Value)} (g : TEnt w es xs) : ElemsOf (PySem.strKind P w) es.toList := fun e m => (g.good e m).elem
theorem TEnt.perm {es es' : Array (Int × Value)} (g : TEnt w es xs) (p : es'.toList.Perm es.toList) : TEnt w es' xs :=
  ⟨fun e m => g.good e (p.mem_iff.mp m), (p.map txt).nodup_iff.mpr g.nd, fun x => (p.map txt).mem_iff.trans (g.mem x)⟩
theorem stored_at {h : Heap} {o : Obj} {es es' : Array (Int × Value)} {ep : Nat} {t t' : SetTable} (ho : h.get? a = some o) (hd : o.data = .set es ep t) :
    (h.update a (Obj.putSet es' t')).get? a = some { o with data := .set es' (ep + 1) t' } := by
  have e := putSet_of es' t' hd
  have q := Heap.get?_update_self (Obj.putSet es' t') ho (by rw [e] <;> rfl)
  rw [e] at q
  exact q
theorem tail_texts {g : Bool → Sem Unit} (hg : ∀ (b : Bool) (s₁ : Shared) (R : Unit → Shared → Prop), R () s₁ → wpAny (model P w) A (g b) R E s₁)
    {o : Obj} {es : Array (Int × Value)} {ep : Nat} {t : SetTable} (ho : s.heap.get? a = some o) (hx : o.ExactSet) (hd : o.data = .set es ep t)
    {es1 : Array (Int × Value)} {t2 : SetTable} (g1 : TEnt w es1 xs) (w2 : TabW w t2 es1.size) {dm : Bool} {R : Option Bool → Shared → Prop}
    (fin : ∀ h', Heap.SameBut a s.heap h' → TSet w h' a xs → R (some true) { s with heap := h' }) :
    wpAny (model P w) A (do
        storeSet a es1 t2
        if (!dm && t2.tooFull) = true then do
            g (relayAll t2 es1 (SetTable.grown es1.size)).2.2
            storeSet a (relayAll t2 es1 (SetTable.grown es1.size)).1 (relayAll t2 es1 (SetTable.grown es1.size)).2.1
            pure (some true)
          else pure (some true)) R E s := by
  refine wpAny_bind (wpAny_storeSet_of ho hd ?_ (fits_of_scanBound w2.small))
  have ho1 := stored_at (es' := es1) (t' := t2) ho hd
  have sb := Heap.SameBut.update s.heap a (Obj.putSet es1 t2)
  split
  · have pm := relayAll_perm t2 es1 (SetTable.grown es1.size)
    have f3 := relayAll_fits t2 es1 (SetTable.grown es1.size)
    have r3 := relayAll_ris t2 es1 (SetTable.grown es1.size)
    have l3 := relayAll_led t2 es1 (SetTable.grown es1.size)
    generalize relayAll t2 es1 (SetTable.grown es1.size) = Z at pm f3 r3 l3 ⊢
    obtain ⟨es2, t3, gv⟩ := Z
    dsimp only at pm f3 r3 l3 ⊢
    have sz : es2.size = es1.size := by rw [← Array.length_toList, pm.length_eq, Array.length_toList]
    have w3 : TabW w t3 es2.size := ⟨by rw [sz]; exact w2.small, f3, r3, w2.led.imp id fun z => by rw [l3]; exact z⟩
    refine wpAny_bind (hg _ _ _ ?_)
    refine wpAny_bind (wpAny_storeSet_of ho1 rfl ?_ (fits_of_scanBound w3.small))
    exact wpAny_pure (fin _ (sb.trans (Heap.SameBut.update _ a _)) ⟨_, es2, _, t3, stored_at ho1 rfl, hx, rfl, g1.perm pm, w3⟩)
  · exact wpAny_pure (fin _ sb ⟨_, es1, _, t2, ho1, hx, rfl, g1, w2⟩)
theorem gave_way (b : Bool) {s₁ : Shared} {R : Unit → Shared → Prop} (q : R () s₁) : wpAny (model P w) A (match b with | true => rule "set.scan.the-table-gave-way" | false => pure ()) R E s₁ := by
  cases b
  · exact wpAny_pure q
  · exact wpAny_rule q
/-- a text is added -/
theorem add_text {x : Str} {tk : Tok} {Q : Bool → Shared → Prop} (T : TSet w s.heap a xs) (room : xs.length + 1 < scanBound)
    (fin : ∀ b h', Heap.SameBut a s.heap h' → TSet w h' a (x :: xs) → Q b { s with heap := h', toks := s.toks + 1 }) :
    wpAny (model P w) A (setAdd a (.str x tk)) Q E s := by
  obtain ⟨o, es, ep, t, ho, hx, hd, g, tw⟩ := T
  have sc : (Value.str x tk).scannable = true := rfl
  have kx : (PySem.strKind P w).is x (.str x tk) = true := strKind_is P w x tk
  unfold setAdd
  refine wpAny_holding ?_
  refine wpAny_bind ((PySem.strKind P w).pyHash kx ?_)
  unfold setAddHashed setAddHashedIn
  refine wpAny_holding (wpAny_bind (wpAny_setState_of (s := { s with toks := s.toks + 1 }) ho hd tw.fits ?_))
  dsimp only
  rw [byScan_of sc tw.small (g.elems (P := P))]
  simp only [↓reduceIte]
  unfold setAddByScan
  refine wpAny_bind ?_
  refine wpAny_bind (wpAny_rule ?_)
  refine wpAny_bind (wpAny_setScan_of kx ho hd tw.fits (g.elems (P := P)) ?_)
  cases fi : List.findIdx? (fun e => (PySem.strKind P w).is x e.2) es.toList with
  | some j =>
    dsimp only
    obtain ⟨hj, pj, _⟩ := List.findIdx?_eq_some_iff_getElem.mp fi
    have mx : x ∈ xs := (g.mem x).mp (List.mem_map.mpr ⟨es.toList[j], List.getElem_mem hj, ((g.good _ (List.getElem_mem hj)).key (P := P) x).mp pj⟩)
    refine wpAny_pure (wpAny_pure ?_)
    refine fin false s.heap (Heap.SameBut.refl a s.heap) ⟨o, es, ep, t, ho, hx, hd, ⟨g.good, g.nd, fun y => (g.mem y).trans ⟨fun m => List.mem_cons_of_mem _ m, fun m => ?_⟩⟩, tw⟩
    rcases List.mem_cons.mp m with m | m
    · rw [m]; exact mx
    · exact m
  | none =>
    dsimp only
    have nx : x ∉ es.toList.map txt := fun z => by
      obtain ⟨e, m, q⟩ := List.mem_map.mp z
      have c := List.findIdx?_eq_none_iff.mp fi e m
      rw [((g.good e m).key (P := P) x).mpr q] at c
      cases c
    have pm := layNew_perm t es ((PySem.strKind P w).hash x) (.str x tk)
    have f1 := layNew_fits t es ((PySem.strKind P w).hash x) (.str x tk)
    have r1 := layNew_ris t es ((PySem.strKind P w).hash x) (.str x tk) tw.ris
    have l1 := layNew_led t es ((PySem.strKind P w).hash x) (.str x tk)
    generalize layNew t es ((PySem.strKind P w).hash x) (.str x tk) = Z at pm f1 r1 l1 ⊢
    obtain ⟨es1, t1, dm, gv⟩ := Z
    dsimp only at pm f1 r1 l1 ⊢
    rw [Array.toList_push] at pm
    have pc : es1.toList.Perm (((PySem.strKind P w).hash x, Value.str x tk) :: es.toList) := pm.trans (List.perm_append_singleton _ _)
    have pk : (es1.toList.map txt).Perm (x :: es.toList.map txt) := pc.map txt
    have g1 : TEnt w es1 (x :: xs) := ⟨fun e m => by
        rcases List.mem_cons.mp (pc.mem_iff.mp m) with z | z
        · rw [z]; exact ⟨x, tk, rfl, rfl⟩
        · exact g.good e z,
      pk.nodup_iff.mpr (List.nodup_cons.mpr ⟨nx, g.nd⟩), fun y => by rw [pk.mem_iff, List.mem_cons, List.mem_cons, g.mem y]⟩
    have sz : es1.size = es.size + 1 := by rw [← Array.length_toList, pc.length_eq, List.length_cons, Array.length_toList]
    have small : es1.size < scanBound := by
      rw [sz]
      have q := nat_le_of (es.toList.map txt) xs g.nd fun y m => (g.mem y).mp m
      rw [List.length_map, Array.length_toList] at q
      omega
    have w1 : TabW w t1 es1.size := ⟨small, f1, r1, tw.led.imp id fun z => by rw [l1]; exact z⟩
    refine wpAny_bind (gave_way gv ?_)
    split
    · refine wpAny_bind ?_
      rw [hashByValue_scannable 8 sc]
      refine wpAny_pure ?_
      refine tail_texts (s := { s with toks := s.toks + 1 }) (fun b s₁ R q => gave_way b q) ho hx hd g1 ?_ fun h' sb T => ?_
      · split
        · exact w1
        · exact ⟨small, SetTable.fits_plain_off f1, r1, w1.led⟩
      · dsimp only; exact wpAny_pure (fin true h' sb T)
    · refine wpAny_bind (wpAny_pure ?_)
      simp only [↓reduceIte]
      refine tail_texts (s := { s with toks := s.toks + 1 }) (fun b s₁ R q => gave_way b q) ho hx hd g1 w1 fun h' sb T => ?_
      dsimp only; exact wpAny_pure (fin true h' sb T)
end
end Pk
namespace Pk
set_option autoImplicit false
set_option maxRecDepth 100000
set_option maxHeartbeats 3200000
open PySem PySem.Spec PyProof.Rows L2
theorem TSet.congr {w : World} {h : Heap} {a : Addr} {xs ys : List Str} (T : TSet w h a xs) (m : ∀ x, x ∈ xs ↔ x ∈ ys) : TSet w h a ys := by
  obtain ⟨o, es, ep, t, ho, hx, hd, g, tw⟩ := T
  exact ⟨o, es, ep, t, ho, hx, hd, ⟨g.good, g.nd, fun x => (g.mem x).trans (m x)⟩, tw⟩
theorem TSet.at {w : World} {h h' : Heap} {a : Addr} {xs : List Str} (T : TSet w h a xs) (k : ∀ o, h.get? a = some o → h'.get? a = some o) : TSet w h' a xs := by
  obtain ⟨o, es, ep, t, ho, r⟩ := T
  exact ⟨o, es, ep, t, k o ho, r⟩
theorem TSet.fresh {w : World} {h : Heap} {a : Addr} (e : h.get? a = some (set0 w)) : TSet w h a [] := by
  refine ⟨_, #[], 0, _, e, ⟨rfl, rfl, rfl⟩, rfl, ⟨fun e m => by simp at m, by simp, fun x => by simp⟩, ⟨by decide, rfl, List.Pairwise.nil, ?_⟩⟩
  show _ ∨ (!w.params.followText "set-order") = true
  cases w.params.followText "set-order"
  · exact .inr rfl
  · exact .inl rfl
/-- the set of the texts xs at a -/
def TSO (w : World) (a : Addr) (xs : List Str) : HO := .ext fun h => TSet w h a xs
theorem tso_new {P : Program} {w : World} {H : Hp} {h : Heap} {a : Addr} {xs : List Str} (T : TSet w h a xs) : ObjOk P w H h a (TSO w a xs) := by
  have ⟨o, _, _, _, ho, _⟩ := T
  exact ⟨T, ⟨o, ho⟩, fun h1 h2 p k => TSet.at p k⟩
theorem valsS : ∀ {ts : List Str} {us : List Value}, Vals (ts.map V.str) us → ∀ (i : Nat) (u : Value), us[i]? = some u → ∃ x tk, ts[i]? = some x ∧ u = .str x tk
  | [], _, r, i, u, e => by cases r; simp at e
  | t :: ts, _, r, 0, u, e => by
    cases r with
    | cons a b =>
      obtain ⟨tk, rfl⟩ := a
      simp at e
      exact ⟨t, tk, rfl, e.symm⟩
  | t :: ts, _, r, i + 1, u, e => by
    cases r with
    | cons a b => exact valsS b i u (by simpa using e)
section
variable {X : Cx}
theorem adds_texts {P : Program} {w : World} {A : Around} {h0 : Heap} {ts : List Str} {us : List Value} (r : Vals (ts.map V.str) us) (hl : ts.length ≤ 4000) :
    Adds P w A h0.objs.size h0 us (fun i h => TSet w h h0.objs.size (ts.take i).reverse ∧ ∀ b o, h0.get? b = some o → h.get? b = some o) where
  new := none_past (Nat.le_refl _)
  keep := fun i h h' ⟨T, _⟩ kS k => ⟨T.at kS, k⟩
  old := fun i h ⟨_, k⟩ => k
  add := fun i u s Q E hu ⟨T, k⟩ fin => by
    obtain ⟨x, tk, hx, rfl⟩ := valsS r i u hu
    have hi := (List.getElem?_eq_some_iff.mp hx).1
    refine add_text T (by rw [List.length_reverse, List.length_take]; unfold scanBound; omega) fun b h' sb T' => fin b h' _ sb (Nat.le_succ _) ⟨?_, fun c o e => ?_⟩
    · rw [List.take_add_one, hx, Option.toList_some, List.reverse_append, List.reverse_singleton]
      exact T'
    · rw [sb.2 c (fun z => absurd (Heap.lt_size e) (by rw [z]; exact Nat.lt_irrefl _))]
      exact k c o e
/-- set(xs), xs texts in a list or a tuple -/
def rSetS (K : PySem.W.Frag) (w : World) : List V → Hp → VK → Prop := fun xs H Q => ∃ (l : Addr) (ts : List Str), xs = [V.ref l] ∧ (SqL K H l (ts.map V.str) ∨ SqT K H l (ts.map V.str)) ∧ ts.length ≤ 4000 ∧ ∀ a, H a = none → Q (.ref a) (upd H a (TSO w a ts))
theorem call_setS (hc : X.calm = true) : CallR X (.type "set") (rSetS X.K X.w) := by
  intro pins s σ H xs us Q I r h
  obtain ⟨l, ts, rfl, hs, hl, q⟩ := h
  obtain ⟨u, rfl, ru⟩ := vals1 r
  cases ru
  have fin : ∀ (its : List Value) (h' : Heap) (tk : Nat), Vals (ts.map V.str) its → (TSet X.w h' s.heap.objs.size (ts.take its.length).reverse ∧ ∀ b o, s.heap.get? b = some o → h'.get? b = some o) → EP X pins σ Q (.ref s.heap.objs.size) { s with heap := h', toks := tk } := fun its h' tk rv ⟨T, k⟩ => by
    have e : its.length = ts.length := by rw [← rv.length, List.length_map]
    rw [e, List.take_length] at T
    exact ⟨.ref s.heap.objs.size, _, I.laid (t' := tk) k (Nat.le_refl _) (tso_new (T.congr fun x => List.mem_reverse)), rfl, q _ (I.hok.fresh (Nat.le_refl _))⟩
  rcases hs with hs | hs
  · obtain ⟨its, rv, pl, hz⟩ := I.list hs
    exact set_of_list (I.ok.hd hc) pl.isList (adds_texts (by simpa using rv) hl) (fun h e k => ⟨TSet.fresh e, k⟩) fun h' tk st k => fin its h' tk rv (by simpa using st)
  · obtain ⟨its, rv, ⟨o, ho, hcl, n, hd⟩, hz⟩ := I.tuple hs
    exact set_of_tuple (I.ok.hd hc) ⟨o, ho, hcl, n, hd⟩ (adds_texts (by simpa using rv) hl) (fun h e k => ⟨TSet.fresh e, k⟩) fun h' tk st k => fin its h' tk rv (by simpa using st)
theorem texts_back : ∀ {out : List Value}, (∀ u ∈ out, ∃ x tk, u = Value.str x tk) → ∃ zs : List Str, Vals (zs.map V.str) out ∧ ∀ e : Int, (out.map fun u => txt (e, u)) = zs
  | [], _ => ⟨[], .nil, fun _ => rfl⟩
  | u :: out, h => by
    obtain ⟨x, tk, rfl⟩ := h u List.mem_cons_self
    obtain ⟨zs, r, e⟩ := texts_back fun v m => h v (List.mem_cons_of_mem _ m)
    exact ⟨x :: zs, .cons ⟨tk, rfl⟩ r, fun i => by rw [List.map_cons, e i] <;> rfl⟩
theorem txt_snd (e : Int × Value) : txt e = txt (0, e.2) := rfl
theorem srt_texts (zs : List Str) : (srt (zs.map fun x => (V.str x, NestedKey.text x))).map (·.1) = (zs.mergeSort sle).map V.str := by
  unfold srt
  have e : (zs.mergeSort sle).map (fun x => (V.str x, NestedKey.text x)) = (zs.map fun x => (V.str x, NestedKey.text x)).mergeSort (PySem.W.dataLe false fun b : V × NestedKey => b.2.data) := by
    refine List.map_mergeSort fun a _ b _ => ?_
    have q := congrFun (congrFun (PySem.W.dataLe_str (fun x : Str => x)) a) b
    exact q.symm
  rw [← e, List.map_map] <;> rfl
theorem sble_texts (zs : List Str) (hl : zs.length ≤ 100000) : Sble (zs.map fun x => (V.str x, NestedKey.text x)) where
  al := fun d m d' m' => by
    rw [List.map_map] at m m'
    obtain ⟨x, _, rfl⟩ := List.mem_map.mp m
    obtain ⟨y, _, rfl⟩ := List.mem_map.mp m'
    rfl
  so := .inr fun d m => by
    rw [List.map_map] at m
    obtain ⟨x, _, rfl⟩ := List.mem_map.mp m
    exact ⟨fun z => (by cases z), fun xs z => (by cases z)⟩
  len := by rw [List.length_map]; exact hl
  dep := fun b m => by
    obtain ⟨x, _, rfl⟩ := List.mem_map.mp m
    exact Nat.zero_le _
/-- sorted(s), s a set of texts -/
def rSortS (w : World) : List V → Hp → VK → Prop := fun xs H Q => ∃ (a : Addr) (ts : List Str), xs = [V.ref a] ∧ H a = some (TSO w a ts) ∧ ∀ p, H p = none → Q (.ref p) (upd H p (.lst ((sset ts).map V.str)))
theorem call_sortS (hu : X.A.units + 64 < cLine) (hc : X.calm = true) : CallR X (.builtin "sorted") (rSortS X.w) := by
  intro pins s σ H xs us Q I r h
  obtain ⟨a, ts, rfl, ha, q⟩ := h
  obtain ⟨u, rfl, ru⟩ := vals1 r
  cases ru
  obtain ⟨o, es, ep, t, ho, hx, hd, g, tw⟩ := (I.hok a _ ha).1
  refine sorted_open (H := H) hu (collect_set (A := X.A.in1) (I.ok.hd hc) ⟨o, ho, hx.1, hd⟩ tw.fits tw.small tw.ris tw.led fun s1 out k hz g1 o1 pm => ?_)
  obtain ⟨zs, rv, ez⟩ := texts_back (out := out) fun u m => by
    obtain ⟨e, me, rfl⟩ := List.mem_map.mp (pm.mem_iff.mp m)
    obtain ⟨x, tk, e2, _⟩ := g.good e me
    exact ⟨x, tk, e2⟩
  have pz : zs.Perm (es.toList.map txt) := by
    have p2 := pm.map fun u => txt (0, u)
    rw [ez 0, List.map_map] at p2
    exact p2
  have nd : zs.Nodup := pz.nodup_iff.mpr g.nd
  have mz : ∀ x, x ∈ zs ↔ x ∈ ts := fun x => pz.mem_iff.trans (g.mem x)
  have lz : zs.length ≤ 100000 := by
    rw [pz.length_eq, List.length_map, Array.length_toList]
    have := tw.small
    unfold scanBound at this
    omega
  refine ⟨zs.map fun x => (V.str x, NestedKey.text x), ?_, ?_, fun b m => ?_, sble_texts zs lz, ?_⟩
  · obtain ⟨h1, g', d1, t1, o'⟩ := s1
    obtain rfl : g' = s.gens := g1
    obtain rfl : o' = s.os := o1
    exact I.call' (s' := ⟨h1, s.gens, d1, t1, s.os⟩) (ch := []) rfl (Un.kept k) (I.hok.kept k) I.bare fun _ m => by cases m
  · rw [List.map_map]; exact rv
  · obtain ⟨x, _, rfl⟩ := List.mem_map.mp m
    exact .text x
  · rw [srt_texts, sort_nodup nd mz]
    exact q
end
end Pk
namespace Pk
set_option autoImplicit false
set_option maxRecDepth 100000
set_option maxHeartbeats 3200000
open PySem PySem.Spec PyProof.Rows L2
/-! ### sets of tuples of texts: the model walks the very table -/
abbrev Rw := Addr × List Str
/-- the hash of a tuple of texts -/
def th (P : Program) (w : World) (ts : List Str) : Int := tupleKeyHash (PySem.strKind P w) ts
/-- at x stands the tuple of the texts ts -/
def isK (P : Program) (w : World) (h : Heap) (ts : List Str) (x : Addr) : Prop := IsTupleKey (PySem.strKind P w) h ts x
def rowE (P : Program) (w : World) (p : Rw) : Int × Value := (th P w p.2, .ref p.1)
/-- the probe's stand behind c steps -/
abbrev pr (t : SetTable) (h : Int) (c : Nat) : SetTable.Probe := nth t.mask (runAt t.mask (SetTable.bits h % (t.mask + 1)) (SetTable.bits h)) c
structure KSet (P : Program) (w : World) (h : Heap) (a : Addr) (L : List Rw) (es : Array (Int × Value)) (ep : Nat) (t : SetTable) : Prop where
  ob : ∃ o, h.get? a = some o ∧ o.ExactSet ∧ o.data = .set es ep t
  rows : es.toList = L.map (rowE P w)
  tab : TabOk t (L.map fun p => th P w p.2)
  nd : (L.map (·.2)).Nodup
  tup : ∀ p ∈ L, isK P w h p.2 p.1
  led : w.params.followText "set-order" = true ∨ t.led = true
  room : L.length * 5 < t.mask * 3
  few : L.length ≤ 76
section
variable {P : Program} {w : World} {A : Around} {E : Value → Shared → Prop} {s : Shared} {a x : Addr} {L : List Rw} {es : Array (Int × Value)} {ep : Nat} {t : SetTable} {ts : List Str}
theorem texts_in {ks : List Str} {vs : List Value} (h : ItemsAre (PySem.strKind P w) ks vs) : ∀ v ∈ vs, ∃ y tk, v = Value.str y tk := by
  induction h with
  | nil => exact fun v m => by cases m
  | @cons k u ks vs h1 _ ih =>
    intro v m
    rcases List.mem_cons.mp m with e | m
    · subst e
      obtain ⟨tk, e⟩ := Value.isStrOf_shape (x := k) (v := v) h1
      exact ⟨k, tk, e⟩
    · exact ih v m
/-- no item of it comes of a class statement -/
theorem no_class (hk : isK P w s.heap ts x) {Q : Bool → Shared → Prop} (h : Q false s) : wpAny (model P w) A (ofAClassStatement 8 (.ref x)) Q E s := by
  have ty := IsTupleKey.typeIs hk
  obtain ⟨o, items, n, ho, _, hd, hi⟩ := hk
  unfold ofAClassStatement
  refine wpAny_bind (wpAny_typeOf ty ?_)
  dsimp only
  have e : (("tuple" : String) == "tuple") = true := by decide
  simp only [e, if_true, Bool.not_true, Bool.false_eq_true, if_false]
  try refine wpAny_bind (wpAny_pure ?_)
  try simp only [Bool.not_true, Bool.false_eq_true, if_false]
  show wpAny _ _ (seqItems? (.ref x) >>= _) _ _ s
  refine wpAny_bind (wpAny_seqItems ho hd ?_)
  dsimp only
  refine wpAny_bind ?_
  show wpAny _ _ (forIn items _ _) _ _ s
  rw [← Array.forIn_toList]
  refine wpAny_forIn_list _ (fun left r s' => r.1 = none ∧ s' = s ∧ ∀ v ∈ left, ∃ y tk, v = Value.str y tk) _ ?_ ?_ _ _ ⟨rfl, rfl, texts_in hi⟩
  · rintro v left r s' ⟨hr, rfl, all⟩
    obtain ⟨y, tk, rfl⟩ := all v List.mem_cons_self
    rw [show ofAClassStatement 7 (.str y tk) = pure false from rfl]
    refine wpAny_bind (wpAny_pure ?_)
    simp only [Bool.false_eq_true, if_false]
    exact wpAny_pure ⟨rfl, rfl, fun u m => all u (List.mem_cons_of_mem _ m)⟩
  · rintro ⟨r1, r2⟩ s' ⟨hr, rfl, _⟩
    simp only at hr
    subst hr
    exact wpAny_pure h
/-- whether its hash is by value: whatever it answers, nothing is touched -/
theorem by_value (hk : isK P w s.heap ts x) {Q : Bool → Shared → Prop} (h : ∀ b, Q b s) : wpAny (model P w) A (hashByValue 8 (.ref x)) Q E s := by
  have ty := IsTupleKey.typeIs hk
  obtain ⟨o, items, n, ho, _, hd, hi⟩ := hk
  unfold hashByValue
  refine wpAny_bind (wpAny_specialOf ty F.slot_tuple_hash.lookup ?_)
  show wpAny _ _ (seqItems? (.ref x) >>= _) _ _ s
  refine wpAny_bind (wpAny_seqItems ho hd ?_)
  dsimp only
  have all := texts_in hi
  refine wpAny_bind ?_
  show wpAny _ _ (forIn items _ _) _ _ s
  rw [← Array.forIn_toList]
  generalize items.toList = its at all
  cases its with
  | nil => exact wpAny_pure (wpAny_pure (h _))
  | cons u its =>
    obtain ⟨y, tk, rfl⟩ := all u List.mem_cons_self
    rw [List.forIn_cons]
    refine wpAny_bind ?_
    rw [show hashByValue 7 (.str y tk) = pure false from rfl]
    refine wpAny_bind (wpAny_pure ?_)
    simp only [Bool.not_false, if_true]
    exact wpAny_pure (wpAny_pure (wpAny_pure (h _)))
/-- a search among such tuples shows nothing -/
theorem unseen (hk : isK P w s.heap ts x) {ys : List Value} (hy : ∀ y ∈ ys, ∃ us c, y = Value.ref c ∧ isK P w s.heap us c) {Q : Bool → Shared → Prop} (h : Q false s) : wpAny (model P w) A (searchCouldBeSeen (.ref x) ys) Q E s := by
  unfold searchCouldBeSeen
  refine wpAny_bind ?_
  refine wpAny_forIn_list _ (fun left r s' => r.1 = none ∧ s' = s ∧ ∀ y ∈ left, ∃ us c, y = Value.ref c ∧ isK P w s.heap us c) _ ?_ ?_ _ _ ⟨rfl, rfl, hy⟩
  · rintro v left r s' ⟨hr, rfl, all⟩
    obtain ⟨us, c, rfl, hc⟩ := all v List.mem_cons_self
    have more : ∀ y ∈ left, ∃ us c, y = Value.ref c ∧ isK P w s'.heap us c := fun u m => all u (List.mem_cons_of_mem _ m)
    dsimp only
    by_cases hv : (x == c || (carriedByValue (.ref x) && carriedByValue (.ref c))) = true
    · exact wp_if_pos hv (wpAny_pure ⟨rfl, rfl, more⟩)
    · refine wp_if_neg hv ?_
      refine wpAny_bind (wpAny_eqIsQuiet_tuple hk ?_)
      simp only [Bool.not_true, Bool.false_eq_true, if_false]
      refine wpAny_bind (wpAny_eqIsQuiet_tuple hc ?_)
      simp only [Bool.not_true, Bool.false_eq_true, if_false]
      refine wpAny_bind (no_class hk ?_)
      simp only [Bool.false_eq_true, if_false]
      refine wpAny_bind (no_class hc ?_)
      simp only [Bool.false_eq_true, if_false]
      exact wpAny_pure ⟨rfl, rfl, more⟩
  · rintro ⟨r1, r2⟩ s' ⟨hr, rfl, _⟩
    simp only at hr
    subst hr
    exact wpAny_pure h
theorem KSet.size (R : KSet P w s.heap a L es ep t) : es.size = L.length := by
  rw [← Array.length_toList, R.rows, List.length_map]
theorem KSet.fits (R : KSet P w s.heap a L es ep t) : t.fits es.size = true := by
  have h1 := R.tab.sz
  rw [List.length_map] at h1
  have h2 := R.size
  have h3 := R.room
  unfold SetTable.fits SetTable.fill
  rw [R.tab.dm, Bool.and_eq_true, beq_iff_eq, decide_eq_true_eq]
  show t.place.size = es.size ∧ t.place.size + 0 ≤ t.mask
  omega
theorem KSet.entry (R : KSet P w s.heap a L es ep t) {i : Nat} {p : Rw} (h : L[i]? = some p) : es[i]? = some (rowE P w p) := by
  rw [← Array.getElem?_toList, R.rows, List.getElem?_map, h] <;> rfl
theorem KSet.stays (R : KSet P w s.heap a L es ep t) : ¬ t.gaveWay = true := by
  unfold SetTable.gaveWay
  rw [mask_odd R.tab.mok]
  decide
theorem pr_dummy (t : SetTable) (h : Int) (c : Nat) : (pr t h c).dummy = none := by
  have key : ∀ (n : Nat) (p : SetTable.Probe), p.dummy = none → (nth t.mask p n).dummy = none := by
    intro n
    induction n with
    | zero => exact fun p e => e
    | succ n ih =>
      intro p e
      refine ih (adv t.mask p) ?_
      unfold adv
      split <;> exact e
  exact key c _ rfl
end
end Pk
namespace Pk
set_option autoImplicit false
set_option maxRecDepth 100000
set_option maxHeartbeats 3200000
open PySem PySem.Spec PyProof.Rows L2
section
variable {P : Program} {w : World} {A : Around} {E : Value → Shared → Prop} {s : Shared} {a x : Addr} {L : List Rw} {es : Array (Int × Value)} {ep : Nat} {t : SetTable} {ts : List Str}
/-- the way of ts's hash -/
abbrev wy (P : Program) (w : World) (t : SetTable) (ts : List Str) (c : Nat) : Nat := way t.mask (th P w ts) c
/-- the search from the c-th step on; K: the first empty slot -/
theorem seek (R : KSet P w s.heap a L es ep t) (hx : isK P w s.heap ts x) (hu : A.units < cLine) {K : Nat} (hKf : K < 10 * SetTable.turns t.mask) (hK : wy P w t ts K ∉ t.place.toList) (hKb : ∀ c, c < K → wy P w t ts c ∈ t.place.toList)
    {Q : SetFound → Shared → Prop} (hin : ts ∈ L.map (·.2) → Q (.there none) s) (hout : ts ∉ L.map (·.2) → Q (.free (wy P w t ts K) false) s) :
    ∀ (f c : Nat) (stand : Option SetTable.Probe), stand.getD (t.probeStart (th P w ts)) = pr t (th P w ts) c → c ≤ K → K - c < f →
      (∀ (i : Nat) (p : Rw), L[i]? = some p → p.2 = ts → ∃ c', c ≤ c' ∧ c' < K ∧ t.place.toList[i]? = some (wy P w t ts c')) →
      wpAny (model P w) A (setSearchFrom a (.ref x) (th P w ts) true f stand) Q E s
  | 0, c, stand, _, _, hf, _ => absurd hf (Nat.not_lt_zero _)
  | f + 1, c, stand, hst, hc, hf, ahead => by
    obtain ⟨o, ho, hex, hd⟩ := R.ob
    rw [setSearchFrom_succ]
    refine wpAny_bind (wpAny_setState_of ho hd R.fits ?_)
    dsimp only
    refine wp_if_neg R.stays ?_
    try refine wpAny_bind (wpAny_pure ?_)
    have shift : ∀ q, nth t.mask (pr t (th P w ts) c) q = pr t (th P w ts) (c + q) := fun q => (nth_add t.mask c _ q).symm
    have shj : ∀ q, (nth t.mask (pr t (th P w ts) c) q).j = wy P w t ts (c + q) := fun q => congrArg SetTable.Probe.j (shift q)
    have spec := go_spec t R.tab.ris R.tab.dm (fun i => (es[i]?.map (·.1)).getD 0) (th P w ts) (10 * SetTable.turns t.mask) (K - c) _ (pr_dummy t (th P w ts) c) (by omega)
      (fun q hq => by rw [shj]; exact hKb (c + q) (by omega)) (by rw [shj, show c + (K - c) = K by omega]; exact hK)
    have hashed : ∀ (i : Nat) (p : Rw), L[i]? = some p → (fun i => (es[i]?.map (·.1)).getD 0) i = th P w p.2 := fun i p hp => by
      show (es[i]?.map (·.1)).getD 0 = _
      rw [R.entry hp] <;> rfl
    rcases spec with ⟨q, i, hq, hi, hh, before, found⟩ | ⟨before, found⟩
    · have found2 : t.probe (fun i => (es[i]?.map (·.1)).getD 0) (th P w ts) (stand.getD (t.probeStart (th P w ts))) = some (.candidate (wy P w t ts (c + q)) i (pr t (th P w ts) (c + (q + 1)))) := by
        rw [hst, ← shj, ← shift]
        exact found
      rw [found2]
      dsimp only
      rw [shj] at hi
      have hil : i < L.length := by
        have h1 := (List.getElem?_eq_some_iff.mp hi).1
        have h2 := R.tab.sz
        rw [List.length_map] at h2
        rw [Array.length_toList] at h1
        omega
      obtain ⟨p, hp⟩ : ∃ p, L[i]? = some p := ⟨_, List.getElem?_eq_getElem hil⟩
      have mp := List.mem_of_getElem? hp
      have tp := R.tup p mp
      have behind : wpAny (model P w) A (searchRest a (.ref x) (th P w ts) true f es t (wy P w t ts (c + q)) i (pr t (th P w ts) (c + (q + 1)))) Q E s := by
        unfold searchRest
        rw [R.entry hp]
        dsimp only [rowE]
        refine wpAny_bind (wpAny_holding (wpAny_eqBool_tuple hu tp hx ?_))
        refine wpAny_bind (wpAny_setState_of ho hd R.fits ?_)
        dsimp only
        by_cases same : p.2 = ts
        · refine wp_if_pos (by simp [same]) ?_
          exact wpAny_pure (hin (List.mem_map.mpr ⟨p, mp, same⟩))
        · refine wp_if_neg (by simp [same]) ?_
          try refine wpAny_bind (wpAny_pure ?_)
          rw [sameMem]
          dsimp only
          have live : t.slot (wy P w t ts (c + q)) = .live i := slot_live R.tab.ris hi
          simp only [if_true, live, R.entry hp, rowE]
          refine wpAny_bind (wpAny_isSame_ref_self (wpAny_bind (wpAny_pure ?_)))
          simp only [if_true]
          refine wp_if_neg (by simp [same]) ?_
          refine seek R hx hu hKf hK hKb hin hout f (c + (q + 1)) _ rfl (by omega) (by omega) fun i0 p0 h0 k0 => ?_
          obtain ⟨c', a1, a2, a3⟩ := ahead i0 p0 h0 k0
          have hk : (fun i => (es[i]?.map (·.1)).getD 0) i0 = th P w ts := (hashed i0 p0 h0).trans (congrArg (th P w) k0)
          refine ⟨c', ?_, a2, a3⟩
          rcases Nat.lt_trichotomy c' (c + q) with z | z | z
          · exact absurd hk (before (c' - c) i0 (by omega) (by rw [shj, show c + (c' - c) = c' by omega]; exact a3))
          · rw [z] at a3
            have l0 := slot_live R.tab.ris a3
            rw [live] at l0
            injection l0 with l0
            rw [← l0, hp] at h0
            exact absurd ((congrArg Prod.snd (Option.some.inj h0)).trans k0) same
          · omega
      by_cases hl : t.led = true
      · refine wp_if_neg (by simp [hl]) ?_
        try refine wpAny_bind (wpAny_pure ?_)
        exact behind
      · refine wp_if_pos (by simp [hl]) ?_
        refine wpAny_bind (unseen hx (fun y hy => ?_) ?_)
        · obtain ⟨e, he, ee⟩ := List.mem_map.mp hy
          have h1 : e ∈ es ∧ e.1 = th P w ts := by simpa using he
          have h2 : e ∈ es.toList := by simpa using h1.1
          rw [R.rows] at h2
          obtain ⟨p2, m2, e2⟩ := List.mem_map.mp h2
          exact ⟨p2.2, p2.1, by rw [← ee, ← e2] <;> rfl, R.tup p2 m2⟩
        · refine wp_if_neg (by decide) ?_
          try refine wpAny_bind (wpAny_pure ?_)
          exact behind
    · have found2 : t.probe (fun i => (es[i]?.map (·.1)).getD 0) (th P w ts) (stand.getD (t.probeStart (th P w ts))) = some (.empty (wy P w t ts K) none) := by
        have e2 : wy P w t ts K = (nth t.mask (pr t (th P w ts) c) (K - c)).j := by rw [shj, show c + (K - c) = K by omega]
        rw [hst, e2]
        exact found
      rw [found2]
      dsimp only
      refine wpAny_pure (hout fun m => ?_)
      obtain ⟨p0, m0, k0⟩ := List.mem_map.mp m
      obtain ⟨i0, hi0, e0⟩ := List.getElem_of_mem m0
      have h0 : L[i0]? = some p0 := by rw [List.getElem?_eq_getElem hi0, e0]
      obtain ⟨c', a1, a2, a3⟩ := ahead i0 p0 h0 k0
      exact before (c' - c) i0 (by omega) (by rw [shj, show c + (c' - c) = c' by omega]; exact a3) ((hashed i0 p0 h0).trans (congrArg (th P w) k0))
/-- the search as adding asks for it -/
theorem seek_all (R : KSet P w s.heap a L es ep t) (hx : isK P w s.heap ts x) (hu : A.units < cLine) {Q : SetFound → Shared → Prop} (hin : ts ∈ L.map (·.2) → Q (.there none) s)
    (hout : ∀ K, ts ∉ L.map (·.2) → wy P w t ts K ∉ t.place.toList → (∀ c, c < K → wy P w t ts c ∈ t.place.toList) → Q (.free (wy P w t ts K) false) s) :
    wpAny (model P w) A (setSearch a (.ref x) (th P w ts) true) Q E s := by
  have room := R.room
  obtain ⟨K, hKf, hK, hKb⟩ := R.tab.first (by rw [List.length_map]; omega) (th P w ts)
  have big : K < 100000 := by
    have : 10 * SetTable.turns t.mask ≤ 1420 := by
      unfold SetTable.turns
      rcases R.tab.mok with e | e | e <;> omega
    omega
  unfold setSearch
  refine seek R hx hu hKf hK hKb hin (fun n => hout K n hK hKb) 100000 0 none rfl (Nat.zero_le _) (by omega) fun i p hp k => ?_
  have hi : (L.map fun p => th P w p.2)[i]? = some (th P w ts) := by rw [List.getElem?_map, hp, ← k] <;> rfl
  have hil : i < t.place.toList.length := by
    have h1 := (List.getElem?_eq_some_iff.mp hp).1
    have h2 := R.tab.sz
    rw [List.length_map] at h2
    rw [Array.length_toList]
    omega
  have hj := List.getElem?_eq_getElem hil
  obtain ⟨c, hc, e⟩ := R.tab.before hK hi hj
  exact ⟨c, Nat.zero_le _, hc, hj.trans (congrArg some e.symm)⟩
end
end Pk
namespace Pk
set_option autoImplicit false
set_option maxRecDepth 100000
set_option maxHeartbeats 3200000
open PySem PySem.Spec PyProof.Rows L2
section
variable {P : Program} {w : World} {A : Around} {E : Value → Shared → Prop} {s : Shared} {a x : Addr} {L : List Rw} {es : Array (Int × Value)} {ep : Nat} {t : SetTable} {ts : List Str}
theorem isK_but {h h' : Heap} {o : Obj} (hb : isK P w h ts x) (ho : h.get? a = some o) (hd : o.data = .set es ep t) (hs : Heap.SameBut a h h') : isK P w h' ts x := by
  obtain ⟨u, items, n, hu, hc, hd', hi⟩ := hb
  refine ⟨u, items, n, (hs.2 x fun z => ?_).trans hu, hc, hd', hi⟩
  rw [z, ho] at hu
  cases hu
  rw [hd] at hd'
  cases hd'
theorem isK_keep {h h' : Heap} (hb : isK P w h ts x) (k : ∀ c o, h.get? c = some o → h'.get? c = some o) : isK P w h' ts x := by
  obtain ⟨u, items, n, hu, r⟩ := hb
  exact ⟨u, items, n, k _ _ hu, r⟩
/-- the rows in the order of a permutation of places -/
theorem rows_by (L : List Rw) (es : Array (Int × Value)) (order : Array Nat) (hr : es.toList = L.map (rowE P w)) (hp : order.toList.Perm (List.range L.length)) :
    ∃ L2 : List Rw, (order.filterMap (es[·]?)).toList = L2.map (rowE P w) ∧ L2.Perm L ∧ (L2.map fun p => th P w p.2) = order.toList.map fun i => (es.map (·.1)).getD i 0 := by
  have get : ∀ i, es[i]? = (L[i]?).map (rowE P w) := fun i => by rw [← Array.getElem?_toList, hr, List.getElem?_map]
  refine ⟨order.toList.filterMap (L[·]?), ?_, ?_, ?_⟩
  · rw [Array.toList_filterMap, List.map_filterMap]
    exact congrArg (fun f => List.filterMap f order.toList) (funext get)
  · have e : (List.range L.length).filterMap (L[·]?) = L := by
      have key : ∀ n, n ≤ L.length → (List.range n).filterMap (L[·]?) = L.take n := by
        intro n
        induction n with
        | zero => exact fun _ => rfl
        | succ n ih =>
          intro hn
          rw [List.range_succ, List.filterMap_append, ih (by omega), List.take_add_one, List.filterMap_cons_some (List.getElem?_eq_getElem hn), List.getElem?_eq_getElem hn] <;> rfl
      rw [key _ (Nat.le_refl _), List.take_length]
    have q := hp.filterMap (L[·]?)
    rw [e] at q
    exact q
  · have lt : ∀ i ∈ order.toList, i < L.length := fun i m => List.mem_range.mp (hp.mem_iff.mp m)
    have key : ∀ l : List Nat, (∀ i ∈ l, i < L.length) → (l.filterMap (L[·]?)).map (fun p => th P w p.2) = l.map fun i => (es.map (·.1)).getD i 0 := by
      intro l
      induction l with
      | nil => exact fun _ => rfl
      | cons i l ih =>
        intro h
        have hi := h i List.mem_cons_self
        have e0 := List.getElem?_eq_getElem hi
        have e1 : (es.map (·.1))[i]? = some (th P w (L[i]).2) := by rw [Array.getElem?_map, get, e0] <;> rfl
        rw [List.filterMap_cons_some e0, List.map_cons, List.map_cons, ih fun j m => h j (List.mem_cons_of_mem _ m), Array.getD_eq_getD_getElem?, e1] <;> rfl
    exact key _ lt
/-- the table laid anew, larger -/
theorem relay (h7 : L.length ≤ 76) {o : Obj} (ho : s.heap.get? a = some o) (hex : o.ExactSet) (hd : o.data = .set es ep t) (rows : es.toList = L.map (rowE P w)) (hsz : t.place.size = es.size) (hdm : t.dummies = #[]) (hfl : es.size ≤ t.mask)
    (nd : (L.map (·.2)).Nodup) (tup : ∀ p ∈ L, isK P w s.heap p.2 p.1) (ld : w.params.followText "set-order" = true ∨ t.led = true) {wanted M : Nat}
    (hw : SetTable.sizeAbove wanted - 1 = M) (hM : MaskOk M) (hw2 : SetTable.sizeAbove wanted ≤ 128) (hn : L.length * 5 < M * 3) {Q : Unit → Shared → Prop}
    (fin : ∀ h' L' es' ep' t', Heap.SameBut a s.heap h' → KSet P w h' a L' es' ep' t' → L'.Perm L → Q () { s with heap := h' }) : wpAny (model P w) A (setRelay a wanted) Q E s := by
  have hsl : es.size = L.length := by rw [← Array.length_toList, rows, List.length_map]
  have fits : t.fits es.size = true := by
    unfold SetTable.fits SetTable.fill
    rw [hdm, Bool.and_eq_true, beq_iff_eq, decide_eq_true_eq]
    show t.place.size = es.size ∧ t.place.size + 0 ≤ t.mask
    omega
  obtain ⟨t', order, e, hp, T, em, el, _, _⟩ := relaid_ok t (hs := es.map (·.1)) (wanted := wanted) hw hM (by rw [Array.size_map, hsl]; omega)
  rw [Array.size_map, hsl] at hp
  obtain ⟨L2, r1, r2, r3⟩ := rows_by L es order rows hp
  rw [← r3] at T
  have s2 : (order.filterMap (es[·]?)).size = es.size := by rw [← Array.length_toList, r1, List.length_map, r2.length_eq, hsl]
  rw [setRelay_eq]
  refine wpAny_bind (wpAny_setState_of ho hd fits ?_)
  dsimp only
  refine wp_if_neg (by rw [sizeLine_eq]; omega) ?_
  try refine wpAny_bind (wpAny_pure ?_)
  rw [e]
  dsimp only
  refine wpAny_bind ?_
  refine wp_if_neg (by rw [s2]; simp) ?_
  try refine wpAny_bind (wpAny_pure ?_)
  refine wpAny_pure ?_
  dsimp only
  refine wpAny_storeSet_of ho hd ?_ (by rw [s2, hsl, sizeLine_eq]; omega)
  have sb : Heap.SameBut a s.heap (s.heap.update a (Obj.putSet (order.filterMap (es[·]?)) t')) := Heap.SameBut.update ..
  refine fin _ L2 (order.filterMap (es[·]?)) (ep + 1) t' sb ⟨⟨_, stored_at ho hd, ⟨hex.1, hex.2.1, hex.2.2⟩, rfl⟩, r1, T, (r2.map (·.2)).nodup_iff.mpr nd, fun p m => isK_but (tup p (r2.mem_iff.mp m)) ho hd sb, by rw [el]; exact ld, ?_, by rw [r2.length_eq]; exact h7⟩ r2
  rw [r2.length_eq, em]
  exact hn
theorem perm_ins {α : Type} (l : List α) (p : Nat) (y : α) : (l.take p ++ y :: l.drop p).Perm (y :: l) := by
  have q : (l.take p ++ y :: l.drop p).Perm (y :: (l.take p ++ l.drop p)) := List.perm_middle
  rw [List.take_append_drop] at q
  exact q
/-- what stands behind an adding -/
structure KNew (L L' : List Rw) (x : Addr) (ts : List Str) : Prop where
  old : ts ∈ L.map (·.2) → L' = L
  new : ts ∉ L.map (·.2) → L'.Perm ((x, ts) :: L)
theorem add_row (R : KSet P w s.heap a L es ep t) (hx : isK P w s.heap ts x) (hu : A.units < cLine) (few : L.length + 1 ≤ 76) {Q : Bool → Shared → Prop}
    (fin : ∀ b h' L' es' ep' t', Heap.SameBut a s.heap h' → KSet P w h' a L' es' ep' t' → KNew L L' x ts → Q b { s with heap := h' }) :
    wpAny (model P w) A (setAddHashed a (.ref x) (th P w ts)) Q E s := by
  obtain ⟨o, ho, hex, hd⟩ := R.ob
  have hsl := R.size
  have room := R.room
  unfold setAddHashed
  refine wpAny_holding ?_
  rw [show (100000 : Nat) = 99999 + 1 from rfl, setAddHashedIn_succ]
  refine wpAny_bind (wpAny_setState_of ho hd R.fits ?_)
  dsimp only
  refine wp_if_neg (by simp [byScan, Value.scannable]) ?_
  try refine wpAny_bind (wpAny_pure ?_)
  refine wpAny_bind (seek_all R hx hu (fun m => ?_) fun K nm hK hb => ?_)
  · dsimp only
    exact wpAny_pure (fin false s.heap L es ep t (Heap.SameBut.refl a s.heap) R ⟨fun _ => rfl, fun z => absurd m z⟩)
  · dsimp only
    refine wpAny_bind (wpAny_setState_of ho hd R.fits ?_)
    dsimp only
    obtain ⟨q1, q2, q3, q4, q5, q6, q7, q8, q9⟩ := R.tab.put hK hb
    generalize t.put (way t.mask (th P w ts) K) = pt at q1 q3 q4 q5 q6 q7 q8 q9 ⊢
    obtain ⟨t1, p⟩ := pt
    dsimp only at q1 q3 q4 q5 q6 q7 q8 q9 ⊢
    subst q1
    -- the table, whatever is said of its plainness
    have go : ∀ t2 : SetTable, t2.place = t1.place → t2.mask = t1.mask → t2.dummies = t1.dummies → t2.led = t1.led →
        wpAny (model P w) A (do
          storeSet a (SetTable.insertAt es (SetTable.below t.place (way t.mask (th P w ts) K)) (th P w ts, Value.ref x)) t2
          if (!false && t2.tooFull) = true then setRelay a (SetTable.grown (es.size + 1))
          return true) Q E s := by
      intro t2 e1 e2 e3 e4
      have T2 : TabOk t2 ((L.map fun p => th P w p.2).take (SetTable.below t.place (way t.mask (th P w ts) K)) ++ th P w ts :: (L.map fun p => th P w p.2).drop (SetTable.below t.place (way t.mask (th P w ts) K))) :=
        ⟨by rw [e1]; exact q3.ris, by rw [e3]; exact q3.dm, by rw [e1]; exact q3.sz, by rw [e2]; exact q3.mok, by rw [e1, e2]; exact q3.bd, by rw [e1, e2]; exact q3.reach⟩
      generalize SetTable.below t.place (way t.mask (th P w ts) K) = p at q2 q3 T2 ⊢
      have pm := perm_ins L p (x, ts)
      have len : (L.take p ++ (x, ts) :: L.drop p).length = L.length + 1 := pm.length_eq
      have hhs : (L.take p ++ (x, ts) :: L.drop p).map (fun p => th P w p.2) = (L.map fun p => th P w p.2).take p ++ th P w ts :: (L.map fun p => th P w p.2).drop p := by
        rw [List.map_append, List.map_cons, List.map_take, List.map_drop]
      rw [← hhs] at T2
      have nd1 : ((L.take p ++ (x, ts) :: L.drop p).map (·.2)).Nodup := by
        refine (pm.map (·.2)).nodup_iff.mpr ?_
        rw [List.map_cons]
        exact List.nodup_cons.mpr ⟨nm, R.nd⟩
      have hin : (SetTable.insertAt es p (th P w ts, Value.ref x)).toList = (L.take p ++ (x, ts) :: L.drop p).map (rowE P w) := by
        rw [SetTable.toList_insertAt, R.rows, List.map_append, List.map_cons, List.map_take, List.map_drop] <;> rfl
      have hes : (SetTable.insertAt es p (th P w ts, Value.ref x)).size = L.length + 1 := by rw [← Array.length_toList, hin, List.length_map, len]
      generalize SetTable.insertAt es p (th P w ts, Value.ref x) = es1 at hin hes ⊢
      generalize L.take p ++ (x, ts) :: L.drop p = L1 at pm len T2 nd1 hin
      refine wpAny_bind (wpAny_storeSet_of ho hd ?_ (by rw [hes, sizeLine_eq]; omega))
      have sb : Heap.SameBut a s.heap (s.heap.update a (Obj.putSet es1 t2)) := Heap.SameBut.update ..
      have ho1 := stored_at (es' := es1) (t' := t2) ho hd
      generalize s.heap.update a (Obj.putSet es1 t2) = h1 at sb ho1 ⊢
      have tup1 : ∀ p ∈ L1, isK P w h1 p.2 p.1 := fun p m => by
        rcases List.mem_cons.mp (pm.mem_iff.mp m) with e | m
        · rw [e]; exact isK_but hx ho hd sb
        · exact isK_but (R.tup p m) ho hd sb
      have ld1 : w.params.followText "set-order" = true ∨ t2.led = true := by rw [e4, q5]; exact R.led
      have sz1 : t2.place.size = L.length + 1 := by
        have h := T2.sz
        rw [List.length_map, len] at h
        exact h
      have full_iff : t2.tooFull = true ↔ (L.length + 1) * 5 ≥ t.mask * 3 := by
        unfold SetTable.tooFull SetTable.fill
        rw [decide_eq_true_eq, T2.dm, e2, q4, sz1]
        show (L.length + 1 + 0) * 5 ≥ t.mask * 3 ↔ _
        rw [Nat.add_zero]
      have kn : ∀ {L' : List Rw}, L'.Perm L1 → KNew L L' x ts := fun pL => ⟨fun z => absurd z nm, fun _ => pL.trans pm⟩
      by_cases hf : t2.tooFull = true
      · refine wp_if_pos (by simp [hf]) ?_
        have full := full_iff.mp hf
        rw [hsl]
        have cases2 : (t.mask = 7 ∧ L.length = 4) ∨ (t.mask = 31 ∧ L.length = 18) := by
          rcases R.tab.mok with e | e | e
          · left; rw [e] at full room; exact ⟨e, by omega⟩
          · right; rw [e] at full room; exact ⟨e, by omega⟩
          · exfalso; rw [e] at full; omega
        have step : ∀ M, SetTable.sizeAbove (SetTable.grown (L.length + 1)) - 1 = M → MaskOk M → SetTable.sizeAbove (SetTable.grown (L.length + 1)) ≤ 128 → (L.length + 1) * 5 < M * 3 →
            wpAny (model P w) A (setRelay a (SetTable.grown (L.length + 1))) (fun _ s' => wpAny (model P w) A (pure true) Q E s') E { s with heap := h1 } := fun M m1 m2 m3 m4 => by
          refine relay (s := { s with heap := h1 }) (by rw [len]; exact few) ho1 ⟨hex.1, hex.2.1, hex.2.2⟩ rfl hin (by rw [sz1, hes]) T2.dm (by rw [hes, e2, q4]; rcases cases2 with ⟨e, e'⟩ | ⟨e, e'⟩ <;> omega) nd1 tup1 ld1 m1 m2 m3 (by rw [len]; exact m4) ?_
          intro h2 L2 es2 ep2 t3 sb2 R2 pm2
          exact wpAny_pure (fin true h2 L2 es2 ep2 t3 (sb.trans sb2) R2 (kn pm2))
        refine wpAny_bind ?_
        rcases cases2 with ⟨_, e'⟩ | ⟨_, e'⟩
        · exact step 31 (by rw [e', size_20]) (.inr (.inl rfl)) (by rw [e', size_20]; decide) (by omega)
        · exact step 127 (by rw [e', size_76]) (.inr (.inr rfl)) (by rw [e', size_76]; decide) (by omega)
      · refine wp_if_neg (by simp [hf]) ?_
        try refine wpAny_bind (wpAny_pure ?_)
        refine wpAny_pure (fin true h1 L1 es1 (ep + 1) t2 sb ⟨⟨_, ho1, ⟨hex.1, hex.2.1, hex.2.2⟩, rfl⟩, hin, T2, nd1, tup1, ld1, ?_, by rw [len]; exact few⟩ (kn (List.Perm.refl _)))
        rw [len, e2, q4]
        have nf : ¬ ((L.length + 1) * 5 ≥ t.mask * 3) := fun z => hf (full_iff.mpr z)
        omega
    by_cases hpl : t1.plain = true
    · first
        | (refine wpAny_bind ?_; refine wp_if_pos hpl ?_; refine by_value hx fun b => ?_)
        | refine wp_if_pos hpl (wpAny_bind (by_value hx fun b => ?_))
      cases b with
      | true => exact go t1 rfl rfl rfl rfl
      | false => exact go { t1 with plain := false } rfl rfl rfl rfl
    · first
        | (refine wpAny_bind ?_; refine wp_if_neg hpl ?_; refine wpAny_pure ?_)
        | refine wp_if_neg hpl (wpAny_bind (wpAny_pure ?_))
      exact go t1 rfl rfl rfl rfl
end
end Pk
namespace Pk
set_option autoImplicit false
set_option maxRecDepth 100000
set_option maxHeartbeats 3200000
open PySem PySem.Spec PyProof.Rows L2
/-! ### the rules: set(tuple of tuples of texts), sorted of it -/
/-- the key of a tuple of texts -/
def tk (ts : List Str) : NestedKey := .tup (ts.map NestedKey.text)
def KS0 (P : Program) (w : World) (h : Heap) (a : Addr) (ks : List Rw) : Prop := ∃ (L : List Rw) (es : Array (Int × Value)) (ep : Nat) (t : SetTable), L.Perm ks ∧ (∃ o, h.get? a = some o ∧ o.ExactSet ∧ o.data = .set es ep t) ∧ es.toList = L.map (rowE P w) ∧
  TabOk t (L.map fun p => th P w p.2) ∧ (w.params.followText "set-order" = true ∨ t.led = true) ∧ L.length * 5 < t.mask * 3 ∧ L.length ≤ 76
def KSO (P : Program) (w : World) (a : Addr) (ks : List Rw) : HO := .ext fun h => KS0 P w h a ks
theorem kso_new {P : Program} {w : World} {H : Hp} {h : Heap} {a : Addr} {ks : List Rw} (R : KS0 P w h a ks) : ObjOk P w H h a (KSO P w a ks) := by
  have ⟨L, es, ep, t, p, ⟨o, ho, r⟩, q⟩ := R
  exact ⟨R, ⟨o, ho⟩, fun h1 h2 ⟨L', es', ep', t', p', ⟨o', ho', r'⟩, q'⟩ k => ⟨L', es', ep', t', p', ⟨o', k o' ho', r'⟩, q'⟩⟩
theorem items_texts {P : Program} {w : World} : ∀ {ts : List Str} {us : List Value}, Vals (ts.map V.str) us → ItemsAre (PySem.strKind P w) ts us
  | [], _, .nil => .nil
  | t :: ts, _, .cons r q => by
    obtain ⟨k, rfl⟩ := r
    exact .cons (strKind_is P w t k) (items_texts q)
theorem vals_ref_eq : ∀ {ks : List Rw} {us : List Value}, Vals (ks.map fun p => V.ref p.1) us → us = ks.map fun p => Value.ref p.1
  | [], _, .nil => rfl
  | p :: ks, _, .cons r q => by
    cases r
    rw [vals_ref_eq q] <;> rfl
theorem ref_vals : ∀ ks : List Rw, Vals (ks.map fun p => V.ref p.1) (ks.map fun p => Value.ref p.1)
  | [] => .nil
  | p :: ks => .cons rfl (ref_vals ks)
section
variable {X : Cx}
theorem is_row {pins : List (Addr × Obj)} {σ : L2.St} {H : Hp} {s : Shared} (I : Inv X pins σ H s) {x : Addr} {ts : List Str} (h : H x = some (.tup (ts.map V.str))) : isK X.prog X.w s.heap ts x := by
  obtain ⟨_, its, rv, ⟨o, ho, hc, n, hd⟩⟩ := (show ObjOk X.prog X.w H s.heap _ (.tup _) from I.hok _ _ h)
  exact ⟨o, its.toArray, n, ho, hc, hd, by simpa using items_texts rv⟩
theorem nd_take {ks : List Rw} (nd : (ks.map (·.2)).Nodup) (i : Nat) : ((ks.take i).map (·.2)).Nodup := by
  rw [List.map_take]
  exact nd.sublist (List.take_sublist _ _)
/-- the adding, item by item, of tuples that differ -/
theorem adds_rows {P : Program} {w : World} {A : Around} {h0 : Heap} {ks : List Rw} (hu : A.units < cLine) (hk : ∀ p ∈ ks, isK P w h0 p.2 p.1) (nd : (ks.map (·.2)).Nodup) (hl : ks.length ≤ 76) :
    Adds P w A h0.objs.size h0 (ks.map fun p => Value.ref p.1) (fun i h => (∃ L es ep t, KSet P w h h0.objs.size L es ep t ∧ L.Perm (ks.take i)) ∧ ∀ b o, h0.get? b = some o → h.get? b = some o) where
  new := none_past (Nat.le_refl _)
  keep := fun i h h' ⟨⟨L, es, ep, t, R, p⟩, _⟩ kS k => ⟨⟨L, es, ep, t, ⟨let ⟨o, ho, r⟩ := R.ob; ⟨o, kS o ho, r⟩, R.rows, R.tab, R.nd, fun q m => isK_keep (hk q (List.mem_of_mem_take (p.mem_iff.mp m))) k, R.led, R.room, R.few⟩, p⟩, k⟩
  old := fun i h ⟨_, k⟩ => k
  add := fun i u s Q E hu' ⟨⟨L, es, ep, t, R, pm⟩, k⟩ fin => by
    rw [List.getElem?_map] at hu'
    cases hp : ks[i]? with
    | none => rw [hp] at hu'; cases hu'
    | some p =>
      rw [hp] at hu'
      cases hu'
      have mp := List.mem_of_getElem? hp
      have hi := (List.getElem?_eq_some_iff.mp hp).1
      have tx : isK P w s.heap p.2 p.1 := isK_keep (hk p mp) k
      have lenL : L.length = i := by rw [pm.length_eq, List.length_take]; omega
      have e1 : ks.take (i + 1) = ks.take i ++ [p] := by rw [List.take_add_one, hp] <;> rfl
      unfold setAdd
      refine wpAny_holding ?_
      refine wpAny_bind (wpAny_pyHash_tuple hu tx ?_)
      refine add_row (s := { s with toks := s.toks + (p.2.length + 1) }) R tx hu (by omega) fun b h' L' es' ep' t' sb R' kn => ?_
      refine fin b h' _ sb (Nat.le_add_right _ _) ⟨⟨L', es', ep', t', R', ?_⟩, fun c o e => ?_⟩
      · have nm : p.2 ∉ L.map (·.2) := fun m => by
          have m2 := (pm.map (·.2)).mem_iff.mp m
          have n2 := nd_take nd (i + 1)
          rw [e1, List.map_append, List.map_singleton] at n2
          exact (List.nodup_append.mp n2).2.2 _ m2 _ (List.mem_singleton.mpr rfl) rfl
        refine (kn.new nm).trans ?_
        rw [e1]
        exact (pm.cons p).trans (List.perm_append_singleton _ _).symm
      · rw [sb.2 c (fun z => absurd (Heap.lt_size e) (by rw [z]; exact Nat.lt_irrefl _))]
        exact k c o e
/-- the first set -/
theorem kset_fresh {P : Program} {w : World} {h : Heap} {a : Addr} (e : h.get? a = some (set0 w)) : KSet P w h a [] #[] 0 (.fresh 0 0 (!w.params.followText "set-order")) where
  ob := ⟨_, e, ⟨rfl, rfl, rfl⟩, rfl⟩
  rows := rfl
  tab := ⟨List.Pairwise.nil, rfl, rfl, .inl rfl, fun x hx => (by cases hx), fun i h j hi => (by simp at hi)⟩
  nd := List.nodup_nil
  tup := fun p m => (by cases m)
  led := by
    show _ ∨ (!w.params.followText "set-order") = true
    cases w.params.followText "set-order"
    · exact .inr rfl
    · exact .inl rfl
  room := by
    show 0 * 5 < 7 * 3
    decide
  few := Nat.zero_le _
def rSetK (K : PySem.W.Frag) (P : Program) (w : World) : List V → Hp → VK → Prop := fun xs H Q => ∃ (l : Addr) (ks : List Rw), xs = [V.ref l] ∧ SqT K H l (ks.map fun p => V.ref p.1) ∧ (∀ p ∈ ks, H p.1 = some (.tup (p.2.map V.str))) ∧ (ks.map (·.2)).Nodup ∧ ks.length ≤ 76 ∧
  ∀ a, H a = none → Q (.ref a) (upd H a (KSO P w a ks))
theorem call_setK (hc : X.calm = true) (hu : X.A.units + 64 < cLine) : CallR X (.type "set") (rSetK X.K X.prog X.w) := by
  intro pins s σ H xs us Q I r h
  obtain ⟨l, ks, rfl, hs, ht, nd, hl, q⟩ := h
  obtain ⟨u, rfl, ru⟩ := vals1 r
  cases ru
  obtain ⟨its, rv, ⟨o, ho, hcl, n, hd⟩, hz⟩ := I.tuple hs
  obtain rfl := vals_ref_eq rv
  have ad := adds_rows (P := X.prog) (w := X.w) (A := X.A.in1.in1.in1) (h0 := s.heap) (by show X.A.units + 1 + 1 + 1 < _; omega) (fun p m => is_row I (ht p m)) nd hl
  refine set_of_tuple (St := fun i h => (∃ (L : List Rw) (es : Array (Int × Value)) (ep : Nat) (t : SetTable), KSet X.prog X.w h s.heap.objs.size L es ep t ∧ L.Perm (ks.take i)) ∧ ∀ b o, s.heap.get? b = some o → h.get? b = some o) (I.ok.hd hc) ⟨o, ho, hcl, n, hd⟩ (by simpa using ad) (fun h e k => ⟨⟨[], #[], 0, _, kset_fresh e, by simp⟩, k⟩) fun h' tk st k => ?_
  obtain ⟨⟨L, es, ep, t, R, pm⟩, _⟩ := st
  have e : (ks.map fun p => Value.ref p.1).toArray.size = ks.length := by simp
  rw [e, List.take_length] at pm
  exact ⟨.ref s.heap.objs.size, _, I.laid (t' := tk) k (Nat.le_refl _) (kso_new ⟨L, es, ep, t, pm, R.ob, R.rows, R.tab, R.led, R.room, R.few⟩), rfl, q _ (I.hok.fresh (Nat.le_refl _))⟩
/-! the order of tuples of texts -/
theorem toks_inj : ∀ {xs ys : List Str}, PySem.W.keyToksAll (NestedKey.datas (xs.map .text)) = PySem.W.keyToksAll (NestedKey.datas (ys.map .text)) → xs = ys
  | [], [], _ => rfl
  | [], y :: ys, h => by
    have h1 := (List.cons.inj h).1
    cases h1
  | x :: xs, [], h => by
    have h1 := (List.cons.inj h).1
    cases h1
  | x :: xs, y :: ys, h => by
    have h1 := (List.cons.inj h).2
    have h2 := List.cons.inj h1
    have h3 : x = y := PySem.W.str_of_cps (Sum.inr.inj h2.1)
    rw [h3, toks_inj h2.2]
def pk (p : Rw) : V × NestedKey := (V.ref p.1, tk p.2)
def ple (a b : Rw) : Bool := PySem.W.dataLe false (fun p : Rw => (tk p.2).data) a b
theorem ple_anti {a b : Rw} (h : ple a b = true) (k : ple b a = true) : a.2 = b.2 := by
  have h1 : (!(PyProof.Rows.lexLt itemOrd (PySem.W.keyToks (tk b.2).data) (PySem.W.keyToks (tk a.2).data))) = true := h
  have k1 : (!(PyProof.Rows.lexLt itemOrd (PySem.W.keyToks (tk a.2).data) (PySem.W.keyToks (tk b.2).data))) = true := k
  rw [Bool.not_eq_true'] at h1 k1
  exact toks_inj (lex_total _ _ k1 h1)

theorem nodup_snd : ∀ {ks : List Rw}, (ks.map (·.2)).Nodup → ∀ {a b : Rw}, a ∈ ks → b ∈ ks → a.2 = b.2 → a = b
  | [], _, _, _, m, _, _ => by cases m
  | p :: ks, nd, a, b, ma, mb, e => by
    rw [List.map_cons] at nd
    obtain ⟨n1, n2⟩ := List.nodup_cons.mp nd
    rcases List.mem_cons.mp ma with ha | ha <;> rcases List.mem_cons.mp mb with hb | hb
    · rw [ha, hb]
    · exact absurd (List.mem_map.mpr ⟨b, hb, by rw [← e, ha]⟩) n1
    · exact absurd (List.mem_map.mpr ⟨a, ha, by rw [e, hb]⟩) n1
    · exact nodup_snd n2 ha hb e
/-- an order of the images is an order of the things -/
theorem perm_back {α β : Type} {f : α → β} : ∀ {out : List β} {L : List α}, out.Perm (L.map f) → ∃ L2 : List α, L2.Perm L ∧ out = L2.map f
  | [], L, p => by
    have e := p.length_eq
    rw [List.length_map] at e
    have e2 : L = [] := List.eq_nil_of_length_eq_zero e.symm
    subst e2
    exact ⟨[], List.Perm.refl _, rfl⟩
  | u :: out, L, p => by
    obtain ⟨x, mx, ex⟩ := List.mem_map.mp (p.mem_iff.mp List.mem_cons_self)
    obtain ⟨l1, l2, rfl⟩ := List.append_of_mem mx
    have p2 : (u :: out).Perm (u :: (l1 ++ l2).map f) := by
      refine p.trans ?_
      rw [List.map_append, List.map_cons, ex, List.map_append]
      exact List.perm_middle
    obtain ⟨L2, q, e⟩ := perm_back ((List.perm_cons u).mp p2)
    exact ⟨x :: L2, (q.cons x).trans List.perm_middle.symm, by rw [List.map_cons, ex, e]⟩
theorem srt_rows {ks L : List Rw} (pm : L.Perm ks) (nd : (ks.map (·.2)).Nodup) : srt (L.map pk) = (ks.mergeSort ple).map pk := by
  unfold srt
  have e : ∀ M : List Rw, (M.mergeSort ple).map pk = (M.map pk).mergeSort (PySem.W.dataLe false fun b : V × NestedKey => b.2.data) := fun M =>
    List.map_mergeSort fun a _ b _ => rfl
  rw [← e]
  refine congrArg (List.map pk) ?_
  have tl := PySem.W.sortLe_total (listOrd itemOrd) false fun p : Rw => PySem.W.keyToks (tk p.2).data
  have pw : ∀ M : List Rw, (M.mergeSort ple).Pairwise fun a b => ple a b = true := fun M => List.pairwise_mergeSort tl.trans (fun a b => by
    rw [Bool.or_eq_true]; exact tl.total a b) M
  refine List.Perm.eq_of_pairwise (le := fun a b => ple a b = true) (fun a b ma mb h k => ?_) (pw L) (pw ks) ((List.mergeSort_perm L ple).trans (pm.trans (List.mergeSort_perm ks ple).symm))
  have e2 := ple_anti h k
  have ma' : a ∈ ks := pm.mem_iff.mp ((List.mergeSort_perm L ple).mem_iff.mp ma)
  have mb' : b ∈ ks := (List.mergeSort_perm ks ple).mem_iff.mp mb
  exact nodup_snd nd ma' mb' e2
theorem dn_row {H : Hp} {x : Addr} {ts : List Str} (h : H x = some (.tup (ts.map V.str))) : Dn H (.ref x) (tk ts) := by
  refine .tup h ?_
  clear h
  induction ts with
  | nil => exact .nil
  | cons t ts ih => exact .cons (.text t) ih
theorem alike_texts : ∀ xs ys : List Str, PySem.W.alikeAll (NestedKey.datas (xs.map .text)) (NestedKey.datas (ys.map .text)) = true
  | [], _ => by cases ‹List Str› <;> rfl
  | x :: xs, [] => rfl
  | x :: xs, y :: ys => by
    have ih := alike_texts xs ys
    show (PySem.W.alike (.str x) (.str y) && _) = true
    rw [show PySem.W.alike (.str x) (.str y) = true from rfl, Bool.true_and]
    exact ih
theorem depth_texts : ∀ xs : List Str, PyData.depthAll (NestedKey.datas (xs.map .text)) = 0
  | [] => rfl
  | x :: xs => by
    have ih := depth_texts xs
    show max (PyData.depth (.str x)) _ = 0
    rw [ih] <;> rfl
theorem sble_rows {L : List Rw} (ne : ∀ p ∈ L, p.2 ≠ []) (hl : L.length ≤ 100000) : Sble (L.map pk) where
  al := fun d m d' m' => by
    rw [List.map_map] at m m'
    obtain ⟨x, _, rfl⟩ := List.mem_map.mp m
    obtain ⟨y, _, rfl⟩ := List.mem_map.mp m'
    exact alike_texts x.2 y.2
  so := .inl fun d m => by
    rw [List.map_map] at m
    obtain ⟨x, mx, rfl⟩ := List.mem_map.mp m
    obtain ⟨a, ts⟩ := x
    cases ts with
    | nil => exact absurd rfl (ne _ mx)
    | cons t ts => exact ⟨_, _, rfl⟩
  len := by rw [List.length_map]; exact hl
  dep := fun b m => by
    obtain ⟨x, _, rfl⟩ := List.mem_map.mp m
    show PyData.depthAll _ + 1 ≤ 8
    rw [depth_texts]
    decide
/-- sorted(s), s a set of tuples of texts -/
def rSortK (P : Program) (w : World) : List V → Hp → VK → Prop := fun xs H Q => ∃ (a : Addr) (ks : List Rw), xs = [V.ref a] ∧ H a = some (KSO P w a ks) ∧ (∀ p ∈ ks, H p.1 = some (.tup (p.2.map V.str)) ∧ p.2 ≠ []) ∧ (ks.map (·.2)).Nodup ∧
  ∀ p, H p = none → Q (.ref p) (upd H p (.lst ((ks.mergeSort ple).map fun p => V.ref p.1)))
theorem call_sortK (hu : X.A.units + 64 < cLine) (hc : X.calm = true) : CallR X (.builtin "sorted") (rSortK X.prog X.w) := by
  intro pins s σ H xs us Q I r h
  obtain ⟨a, ks, rfl, ha, ht, nd, q⟩ := h
  obtain ⟨u, rfl, ru⟩ := vals1 r
  cases ru
  obtain ⟨L, es, ep, t, pm, ⟨o, ho, hx, hd⟩, rows, tab, led, room, few⟩ := (I.hok a _ ha).1
  have esz : es.size = L.length := by rw [← Array.length_toList, rows, List.length_map]
  have fits : t.fits es.size = true := by
    have h1 := tab.sz
    rw [List.length_map] at h1
    unfold SetTable.fits SetTable.fill
    rw [tab.dm, Bool.and_eq_true, beq_iff_eq, decide_eq_true_eq]
    show t.place.size = es.size ∧ t.place.size + 0 ≤ t.mask
    omega
  refine sorted_open (H := H) hu (collect_set (A := X.A.in1) (I.ok.hd hc) ⟨o, ho, hx.1, hd⟩ fits (by unfold scanBound; omega) tab.ris led fun s1 out k hz g1 o1 pm2 => ?_)
  have es2 : es.toList.map (·.2) = L.map fun p => Value.ref p.1 := by rw [rows, List.map_map] <;> rfl
  rw [es2] at pm2
  obtain ⟨L2, p2, e2⟩ : ∃ L2 : List Rw, L2.Perm L ∧ out = L2.map fun p => Value.ref p.1 := perm_back pm2
  have p3 : L2.Perm ks := p2.trans pm
  refine ⟨L2.map pk, ?_, ?_, fun b m => ?_, sble_rows (fun p m => (ht p (p3.mem_iff.mp m)).2) (by rw [p2.length_eq]; omega), ?_⟩
  · obtain ⟨h1, g', d1, t1, o'⟩ := s1
    obtain rfl : g' = s.gens := g1
    obtain rfl : o' = s.os := o1
    exact I.call' (s' := ⟨h1, s.gens, d1, t1, s.os⟩) (ch := []) rfl (Un.kept k) (I.hok.kept k) I.bare fun _ m => by cases m
  · rw [e2, List.map_map]
    exact ref_vals L2
  · obtain ⟨x, m', rfl⟩ := List.mem_map.mp m
    exact dn_row (ht x (p3.mem_iff.mp m')).1
  · rw [srt_rows p3 nd, List.map_map]
    exact q
end
end Pk
namespace Pk
set_option maxRecDepth 100000
set_option maxHeartbeats 0
open PySem PySem.Spec PyProof.Rows L2
def top (i : Nat) : Stmt := PySem.Challenge.pw_pathask_k62_whole_within.main.body.getD i (.Pass ⟨0, 0, 0, 0⟩)
abbrev s_parts_of : Stmt := top 2
abbrev s_all_parts : Stmt := top 3
abbrev s_words_in : Stmt := top 4
abbrev s_marks_in : Stmt := top 5
abbrev s_Maker_init : Stmt := inClass (top 8) 0
abbrev s_Maker_fresh : Stmt := inClass (top 8) 1
abbrev s_Maker_lay : Stmt := inClass (top 8) 2
abbrev s_Maker_lay_row : Stmt := inClass (top 8) 3
abbrev s_machine_of : Stmt := top 9
abbrev s_holds_at : Stmt := top 10
abbrev s_is_step_by : Stmt := top 11
abbrev s_come_to : Stmt := top 12
abbrev s_stepped : Stmt := top 13
abbrev s_asked_steps : Stmt := top 17
abbrev s_asked_marks : Stmt := top 18
abbrev s_has_end : Stmt := top 19
abbrev s_is_among : Stmt := top 20
abbrev s_knot_by : Stmt := top 21
abbrev s_Walk_init : Stmt := inClass (top 22) 0
abbrev s_Walk_add : Stmt := inClass (top 22) 1
abbrev s_Walk_parted_at : Stmt := inClass (top 22) 2
abbrev s_Walk_parting : Stmt := inClass (top 22) 3
abbrev s_Walk_trail : Stmt := inClass (top 22) 4
abbrev s_Walk_web_by : Stmt := inClass (top 22) 5
abbrev s_within : Stmt := top 23
abbrev s_L_feed : Stmt := top 25
abbrev s_L_draw : Stmt := top 26
abbrev s_L_names : Stmt := top 27
abbrev s_L_leaf : Stmt := top 28
abbrev s_L_pattern : Stmt := top 29
abbrev s_L_ends : Stmt := top 30
abbrev s_L_right : Stmt := top 31
abbrev s_L_marks_of : Stmt := top 32
abbrev s_L_words_of : Stmt := top 33
abbrev s_L_asked : Stmt := top 34
abbrev s_L_line_by : Stmt := top 35
abbrev s_L_name : Stmt := top 36
abbrev s_L_rows : Stmt := top 37
abbrev s_L_parts : Stmt := top 38
abbrev s_L_two : Stmt := top 39
abbrev s_L_lines : Stmt := top 40
abbrev s_law : Stmt := top 41
def d_parts_of : He.DefD := ⟨("parts_of", none), "parts_of", "parts_of", defArgs s_parts_of, defBody s_parts_of, defScope s_parts_of, [], []⟩
def d_all_parts : He.DefD := ⟨("all_parts", none), "all_parts", "all_parts", defArgs s_all_parts, defBody s_all_parts, defScope s_all_parts, [], []⟩
def d_words_in : He.DefD := ⟨("words_in", none), "words_in", "words_in", defArgs s_words_in, defBody s_words_in, defScope s_words_in, [], []⟩
def d_marks_in : He.DefD := ⟨("marks_in", none), "marks_in", "marks_in", defArgs s_marks_in, defBody s_marks_in, defScope s_marks_in, [], []⟩
def d_Maker_init : He.DefD := ⟨("Maker", some "__init__"), "__init__", "Maker.__init__", defArgs s_Maker_init, defBody s_Maker_init, defScope s_Maker_init, [], []⟩
def d_Maker_fresh : He.DefD := ⟨("Maker", some "fresh"), "fresh", "Maker.fresh", defArgs s_Maker_fresh, defBody s_Maker_fresh, defScope s_Maker_fresh, [], []⟩
def d_Maker_lay : He.DefD := ⟨("Maker", some "lay"), "lay", "Maker.lay", defArgs s_Maker_lay, defBody s_Maker_lay, defScope s_Maker_lay, [], []⟩
def d_Maker_lay_row : He.DefD := ⟨("Maker", some "lay_row"), "lay_row", "Maker.lay_row", defArgs s_Maker_lay_row, defBody s_Maker_lay_row, defScope s_Maker_lay_row, [], []⟩
def d_machine_of : He.DefD := ⟨("machine_of", none), "machine_of", "machine_of", defArgs s_machine_of, defBody s_machine_of, defScope s_machine_of, [], []⟩
def d_holds_at : He.DefD := ⟨("holds_at", none), "holds_at", "holds_at", defArgs s_holds_at, defBody s_holds_at, defScope s_holds_at, [], []⟩
def d_is_step_by : He.DefD := ⟨("is_step_by", none), "is_step_by", "is_step_by", defArgs s_is_step_by, defBody s_is_step_by, defScope s_is_step_by, [], []⟩
def d_come_to : He.DefD := ⟨("come_to", none), "come_to", "come_to", defArgs s_come_to, defBody s_come_to, defScope s_come_to, [], []⟩
def d_stepped : He.DefD := ⟨("stepped", none), "stepped", "stepped", defArgs s_stepped, defBody s_stepped, defScope s_stepped, [], []⟩
def d_asked_steps : He.DefD := ⟨("asked_steps", none), "asked_steps", "asked_steps", defArgs s_asked_steps, defBody s_asked_steps, defScope s_asked_steps, [], []⟩
def d_asked_marks : He.DefD := ⟨("asked_marks", none), "asked_marks", "asked_marks", defArgs s_asked_marks, defBody s_asked_marks, defScope s_asked_marks, [], []⟩
def d_has_end : He.DefD := ⟨("has_end", none), "has_end", "has_end", defArgs s_has_end, defBody s_has_end, defScope s_has_end, [], []⟩
def d_is_among : He.DefD := ⟨("is_among", none), "is_among", "is_among", defArgs s_is_among, defBody s_is_among, defScope s_is_among, [], []⟩
def d_knot_by : He.DefD := ⟨("knot_by", none), "knot_by", "knot_by", defArgs s_knot_by, defBody s_knot_by, defScope s_knot_by, [], []⟩
def d_Walk_init : He.DefD := ⟨("Walk", some "__init__"), "__init__", "Walk.__init__", defArgs s_Walk_init, defBody s_Walk_init, defScope s_Walk_init, [], []⟩
def d_Walk_add : He.DefD := ⟨("Walk", some "add"), "add", "Walk.add", defArgs s_Walk_add, defBody s_Walk_add, defScope s_Walk_add, [], []⟩
def d_Walk_parted_at : He.DefD := ⟨("Walk", some "parted_at"), "parted_at", "Walk.parted_at", defArgs s_Walk_parted_at, defBody s_Walk_parted_at, defScope s_Walk_parted_at, [], []⟩
def d_Walk_parting : He.DefD := ⟨("Walk", some "parting"), "parting", "Walk.parting", defArgs s_Walk_parting, defBody s_Walk_parting, defScope s_Walk_parting, [], []⟩
def d_Walk_trail : He.DefD := ⟨("Walk", some "trail"), "trail", "Walk.trail", defArgs s_Walk_trail, defBody s_Walk_trail, defScope s_Walk_trail, [], []⟩
def d_Walk_web_by : He.DefD := ⟨("Walk", some "web_by"), "web_by", "Walk.web_by", defArgs s_Walk_web_by, defBody s_Walk_web_by, defScope s_Walk_web_by, [], []⟩
def d_within : He.DefD := ⟨("within", none), "within", "within", defArgs s_within, defBody s_within, defScope s_within, [], []⟩
def d_L_feed : He.DefD := ⟨("_law_feed", none), "_law_feed", "_law_feed", defArgs s_L_feed, defBody s_L_feed, defScope s_L_feed, [], []⟩
def d_L_draw : He.DefD := ⟨("_law_draw", none), "_law_draw", "_law_draw", defArgs s_L_draw, defBody s_L_draw, defScope s_L_draw, [], []⟩
def d_L_names : He.DefD := ⟨("_law_names", none), "_law_names", "_law_names", defArgs s_L_names, defBody s_L_names, defScope s_L_names, [], []⟩
def d_L_leaf : He.DefD := ⟨("_law_leaf", none), "_law_leaf", "_law_leaf", defArgs s_L_leaf, defBody s_L_leaf, defScope s_L_leaf, [], []⟩
def d_L_pattern : He.DefD := ⟨("_law_pattern", none), "_law_pattern", "_law_pattern", defArgs s_L_pattern, defBody s_L_pattern, defScope s_L_pattern, [], []⟩
def d_L_ends : He.DefD := ⟨("_law_ends", none), "_law_ends", "_law_ends", defArgs s_L_ends, defBody s_L_ends, defScope s_L_ends, [], []⟩
def d_L_right : He.DefD := ⟨("_law_right", none), "_law_right", "_law_right", defArgs s_L_right, defBody s_L_right, defScope s_L_right, [], []⟩
def d_L_marks_of : He.DefD := ⟨("_law_marks_of", none), "_law_marks_of", "_law_marks_of", defArgs s_L_marks_of, defBody s_L_marks_of, defScope s_L_marks_of, [], []⟩
def d_L_words_of : He.DefD := ⟨("_law_words_of", none), "_law_words_of", "_law_words_of", defArgs s_L_words_of, defBody s_L_words_of, defScope s_L_words_of, [], []⟩
def d_L_asked : He.DefD := ⟨("_law_asked", none), "_law_asked", "_law_asked", defArgs s_L_asked, defBody s_L_asked, defScope s_L_asked, [], []⟩
def d_L_line_by : He.DefD := ⟨("_law_line_by", none), "_law_line_by", "_law_line_by", defArgs s_L_line_by, defBody s_L_line_by, defScope s_L_line_by, [], []⟩
def d_L_name : He.DefD := ⟨("_law_name", none), "_law_name", "_law_name", defArgs s_L_name, defBody s_L_name, defScope s_L_name, [], []⟩
def d_L_rows : He.DefD := ⟨("_law_rows", none), "_law_rows", "_law_rows", defArgs s_L_rows, defBody s_L_rows, defScope s_L_rows, [], []⟩
def d_L_parts : He.DefD := ⟨("_law_parts", none), "_law_parts", "_law_parts", defArgs s_L_parts, defBody s_L_parts, defScope s_L_parts, [], []⟩
def d_L_two : He.DefD := ⟨("_law_two", none), "_law_two", "_law_two", defArgs s_L_two, defBody s_L_two, defScope s_L_two, [], []⟩
def d_L_lines : He.DefD := ⟨("_law_lines", none), "_law_lines", "_law_lines", defArgs s_L_lines, defBody s_L_lines, defScope s_L_lines, [], []⟩
def d_law : He.DefD := ⟨("law", none), "law", "law", defArgs s_law, defBody s_law, defScope s_law, [], []⟩
def fn : List He.DefD := ([d_parts_of, d_all_parts, d_words_in, d_marks_in, d_Maker_init, d_Maker_fresh, d_Maker_lay, d_Maker_lay_row, d_machine_of, d_holds_at, d_is_step_by, d_come_to, d_stepped, d_asked_steps, d_asked_marks, d_has_end, d_is_among, d_knot_by, d_Walk_init, d_Walk_add, d_Walk_parted_at] : List He.DefD) ++ ([d_Walk_parting, d_Walk_trail, d_Walk_web_by, d_within, d_L_feed, d_L_draw, d_L_names, d_L_leaf, d_L_pattern, d_L_ends, d_L_right, d_L_marks_of, d_L_words_of, d_L_asked, d_L_line_by, d_L_name, d_L_rows, d_L_parts, d_L_two, d_L_lines, d_law] : List He.DefD)
def fa : List He.Fa := ([.glo "parts_of", .glo "all_parts", .glo "words_in", .glo "marks_in", .glo "machine_of", .glo "holds_at", .glo "is_step_by", .glo "come_to", .glo "stepped", .glo "asked_steps", .glo "asked_marks", .glo "has_end", .glo "is_among", .glo "knot_by", .glo "within", .glo "_law_feed", .glo "_law_draw", .glo "_law_names"] : List He.Fa) ++ ([.glo "_law_leaf", .glo "_law_pattern", .glo "_law_ends", .glo "_law_right", .glo "_law_marks_of", .glo "_law_words_of", .glo "_law_asked", .glo "_law_line_by", .glo "_law_name", .glo "_law_rows", .glo "_law_parts", .glo "_law_two", .glo "_law_lines", .glo "law", .free "len", .free "sorted", .free "set", .free "range"] : List He.Fa) ++ ([.free "list", .free "tuple", .free "dict", .free "any", .free "all", .free "isinstance", .free "int", .free "str", .glo "Maker", .cls "Maker", .mkr "Maker", .meth "Maker" "fresh", .meth "Maker" "lay", .meth "Maker" "lay_row", .noat "Maker" "size", .noat "Maker" "laid", .glo "Walk", .cls "Walk"] : List He.Fa) ++ ([.mkr "Walk", .meth "Walk" "add", .meth "Walk" "parted_at", .meth "Walk" "parting", .meth "Walk" "trail", .meth "Walk" "web_by", .noat "Walk" "first", .noat "Walk" "second", .noat "Walk" "all_steps", .noat "Walk" "all_marks", .noat "Walk" "found_pairs", .noat "Walk" "by_stand", .noat "Walk" "came", .str "ANY_WORD" "*", .str "LETTERS" "abcdefghijklmnopqrstuvwxyz", .glo "LEAVES", .glo "SIDES"] : List He.Fa)
def ex (K : PySem.W.Frag) : Bool := He.tupB K "LEAVES" [.str "stay", .str "step", .str "at", .str "off"] && He.tupB K "SIDES" [.str "on", .str "back"]

/-- what the head tells: the defs, the facts, the two tables -/
def obsP (K : PySem.W.Frag) : Bool × He.AlD := (ex K, He.obsD fa fn K)
def SaysP (K : PySem.W.Frag) : Prop := obsP K = (true, He.valD fn)
def obsPG (n : Nat) (g : Addr → Option Obj) : Bool × He.AlD := obsP (He.frG g (He.asD g n))
def hk : PySem.W.Hook where
  α := Bool × He.AlD
  obs := fun s => obsPG 5 s.heap.get?
  val := fun _ => (true, He.valD fn)
  says := fun _ h => ∃ K : PySem.W.Frag, K.In h ∧ SaysP K
  of := fun _ _ e => ⟨_, He.frG_in, e⟩
  keeps := fun _ _ _ ⟨K, hK, c⟩ k => ⟨K, PySem.W.Frag.In.keeps hK k, c⟩
def ob (s : PySem.W.SharedT) : Bool × He.AlD := obsPG 5 (HandSHeadRun.getT s)
theorem ob_eq (s : PySem.W.SharedT) : ob s = hk.obs s.abs := by
  have e : HandSHeadRun.getT s = s.abs.heap.get? := funext (HandSHeadRun.getT_eq s)
  show obsPG 5 (HandSHeadRun.getT s) = obsPG 5 s.abs.heap.get?
  rw [e]
abbrev RR : PySem.W.OpenRow := PySem.W.OpenLaw.row PySem.Challenge.rw_pathask_k62_whole_within
def loose : List PySem.Str := (["ANY_WORD", "parts_of", "all_parts", "words_in", "marks_in", "LEAVES", "Maker", "machine_of", "holds_at", "is_step_by", "come_to", "stepped", "SIDES", "LETTERS", "asked_steps", "asked_marks", "has_end", "is_among", "knot_by"] : List PySem.Str) ++ (["Walk", "within", "_law_feed", "_law_draw", "_law_names", "_law_leaf", "_law_pattern", "_law_ends", "_law_right", "_law_marks_of", "_law_words_of", "_law_asked", "_law_line_by", "_law_name", "_law_rows", "_law_parts", "_law_two", "_law_lines"] : List PySem.Str)
theorem run (w : World) : HandSHeadRun.RunEq RR (PySem.W.view RR.prog [41]) hk ob 3000 loose w := by
  intro os
  kernel_rfl
end Pk
namespace Pk
set_option autoImplicit false
set_option maxRecDepth 100000
set_option maxHeartbeats 2000000
open PySem PySem.Spec PyProof.Rows L2
/-- what the top has written -/
structure Wd (K : PySem.W.Frag) (mg : Str → Option Value) : Prop where
  says : SaysP K
  ns : ∃ h : Heap, K.In h ∧ h.Ns mainGlobals mg
section
variable {P : Program} {w : World} {K : PySem.W.Frag} {mg : Str → Option Value} {base : Heap}
theorem Wd.d (W : Wd K mg) : He.SaysD fa fn K := congrArg (fun z : Bool × He.AlD => z.2) W.says
theorem Wd.tabs (W : Wd K mg) : ex K = true := congrArg (fun z : Bool × He.AlD => z.1) W.says
theorem Wd.fact (W : Wd K mg) (i : Nat) {f : He.Fa} (h : fa[i]? = some f := by rfl) : f.ok K = true := W.d.fact i h
theorem Wd.glo (W : Wd K mg) (i : Nat) {x : Str} (h : fa[i]? = some (.glo x) := by rfl) : mg x = some (.ref (He.ga K x)) := by
  obtain ⟨b, X, G⟩ := W.ns
  exact He.glo_ok X G (W.fact i h)
theorem Wd.free (W : Wd K mg) (i : Nat) {x : Str} (h : fa[i]? = some (.free x) := by rfl) : mg x = none := by
  obtain ⟨b, X, G⟩ := W.ns
  exact He.free_ok X G (W.fact i h)
theorem Wd.str (W : Wd K mg) (i : Nat) {x z : Str} (h : fa[i]? = some (.str x z) := by rfl) : ∃ t, mg x = some (.str z t) := by
  obtain ⟨b, X, G⟩ := W.ns
  exact He.str_ok X G (W.fact i h)
theorem Wd.cls (W : Wd K mg) (i : Nat) {x : Str} (h : fa[i]? = some (.cls x) := by rfl) : Cls K (He.ga K x) := He.cls_ok (W.fact i h)
theorem Wd.noat (W : Wd K mg) (i : Nat) {x f : Str} (h : fa[i]? = some (.noat x f) := by rfl) : NoAttr K (He.ga K x) f := He.noat_ok (W.fact i h)
theorem Wd.meth (W : Wd K mg) (i : Nat) {x m : Str} (h : fa[i]? = some (.meth x m) := by rfl) : Meth K (He.ga K x) m (He.ma K (He.ga K x) m) := He.meth_ok (W.fact i h)
theorem Wd.mkr (W : Wd K mg) (i : Nat) {x : Str} (h : fa[i]? = some (.mkr x) := by rfl) : Mk K (He.ga K x) (He.ma K (He.ga K x) "__init__") := He.mkr_ok (W.fact i h)
/-- a promise without a way that raises -/
abbrev Sq := List V → Hp → VK → Prop
abbrev toSp (sq : Sq) : Sp := fun vs H Q _ => sq vs H Q
/-- a def of the module that keeps a promise -/
structure Cl (P : Program) (w : World) (K : PySem.W.Frag) (mg : Str → Option Value) (base : Heap) (x : Str) (ps : List Str) (k : Nat) (sq : Sq) : Prop where
  ex : ∃ (f : Addr) (fd : FuncData), mg x = some (.ref f) ∧ PySem.W.keepIn K (.ref f) = true ∧ Binds K fd ps [] ∧ FnOk P w K mg base CX0 k f fd ps (toSp sq)
/-- a method of the class at C -/
structure Ml (P : Program) (w : World) (K : PySem.W.Frag) (mg : Str → Option Value) (base : Heap) (C : Addr) (x : Str) (ps : List Str) (k : Nat) (sq : Sq) : Prop where
  ex : ∃ (f : Addr) (fd : FuncData), Meth K C x f ∧ Binds K fd ps [] ∧ FnOk P w K mg base CX0 k f fd ps (toSp sq)
/-- an __init__ -/
structure Il (P : Program) (w : World) (K : PySem.W.Frag) (mg : Str → Option Value) (base : Heap) (x : Str) (ps : List Str) (k : Nat) (sq : Sq) : Prop where
  ex : ∃ (f : Addr) (fd : FuncData), mg x = some (.ref (He.ga K x)) ∧ Mk K (He.ga K x) f ∧ Binds K fd ps [] ∧ FnOk P w K mg base CX0 k f fd ps (toSp sq)
theorem fn_any {d : He.DefD} (W : Wd K mg) (i : Nat) (hd : fn[i]? = some d) (h0 : d.dvs K = []) {N ps : List Str} {k : Nat} {sq : Sq} (S : FnScope N ps d.scope)
    (hb : ∀ (kV doc pm : Value) (an : Option Addr) (cdv ct : Value) (us : List Value), us.length = ps.length → bindArgs (PySem.W.fnOf d.name d.qual d.params d.body d.scope .none kV doc pm an cdv ct) ⟨us, []⟩ = pure (ps.zip us))
    (len : ∀ vs H Q, sq vs H Q → vs.length = ps.length)
    (body : ∀ (f : Addr) (cdv : Value) (A : Around) (outer : List Env) (s : Shared) (H : Hp) (vs : List V) (Q : VK) (E : XK), Room k (A.deeper (envOfC d.qual d.scope s.heap.objs.size f cdv)) → sq vs H Q →
      ∃ t, PSs (cxOf CX0 P w K mg base N d.qual d.scope f cdv A outer s H E).nox d.body t ∧ t { nx := fun _ H' => Q .non H', rt := Q } (start N vs) H) :
    ∃ fd, PySem.W.keepIn K (.ref (He.fAd K d.at_)) = true ∧ Binds K fd ps [] ∧ FnOk P w K mg base CX0 (k + 1) (He.fAd K d.at_) fd ps (toSp sq) := by
  obtain ⟨fd, F⟩ := W.d.def_ i hd
  rw [h0] at F
  refine ⟨fd, F.kp, F.bindsN hb, ?_⟩
  obtain ⟨oc, od, dV, kV, doc, pm, an, cdv, ct, osl, rfl, lk, hcd, _, _⟩ := F.ex
  refine fn_of lk hcd S (fun vs H Q E h => len vs H Q h) fun A outer s H vs Q E hr hsp => ?_
  obtain ⟨t, h, q⟩ := body _ cdv A outer s H vs Q E hr hsp
  exact ⟨t, h.nox, q⟩
theorem mk_cl {d : He.DefD} (W : Wd K mg) (i j : Nat) {x : Str} (hd : fn[i]? = some d) (h0 : d.dvs K = []) (hx : d.at_ = (x, none)) (hj : fa[j]? = some (.glo x)) {N ps : List Str} {k : Nat} {sq : Sq} (S : FnScope N ps d.scope)
    (hb : ∀ (kV doc pm : Value) (an : Option Addr) (cdv ct : Value) (us : List Value), us.length = ps.length → bindArgs (PySem.W.fnOf d.name d.qual d.params d.body d.scope .none kV doc pm an cdv ct) ⟨us, []⟩ = pure (ps.zip us))
    (len : ∀ vs H Q, sq vs H Q → vs.length = ps.length)
    (body : ∀ (f : Addr) (cdv : Value) (A : Around) (outer : List Env) (s : Shared) (H : Hp) (vs : List V) (Q : VK) (E : XK), Room k (A.deeper (envOfC d.qual d.scope s.heap.objs.size f cdv)) → sq vs H Q →
      ∃ t, PSs (cxOf CX0 P w K mg base N d.qual d.scope f cdv A outer s H E).nox d.body t ∧ t { nx := fun _ H' => Q .non H', rt := Q } (start N vs) H) :
    Cl P w K mg base x ps (k + 1) sq := by
  obtain ⟨fd, kp, b, F⟩ := fn_any (P := P) (w := w) (base := base) W i hd h0 S hb len body
  refine ⟨_, fd, ?_, kp, b, F⟩
  rw [hx]
  exact W.glo j hj
theorem mk_ml {d : He.DefD} (W : Wd K mg) (i j : Nat) {c x : Str} (hd : fn[i]? = some d) (h0 : d.dvs K = []) (hx : d.at_ = (c, some x)) (hj : fa[j]? = some (.meth c x)) {N ps : List Str} {k : Nat} {sq : Sq} (S : FnScope N ps d.scope)
    (hb : ∀ (kV doc pm : Value) (an : Option Addr) (cdv ct : Value) (us : List Value), us.length = ps.length → bindArgs (PySem.W.fnOf d.name d.qual d.params d.body d.scope .none kV doc pm an cdv ct) ⟨us, []⟩ = pure (ps.zip us))
    (len : ∀ vs H Q, sq vs H Q → vs.length = ps.length)
    (body : ∀ (f : Addr) (cdv : Value) (A : Around) (outer : List Env) (s : Shared) (H : Hp) (vs : List V) (Q : VK) (E : XK), Room k (A.deeper (envOfC d.qual d.scope s.heap.objs.size f cdv)) → sq vs H Q →
      ∃ t, PSs (cxOf CX0 P w K mg base N d.qual d.scope f cdv A outer s H E).nox d.body t ∧ t { nx := fun _ H' => Q .non H', rt := Q } (start N vs) H) :
    Ml P w K mg base (He.ga K c) x ps (k + 1) sq := by
  obtain ⟨fd, kp, b, F⟩ := fn_any (P := P) (w := w) (base := base) W i hd h0 S hb len body
  rw [hx] at F
  exact ⟨_, fd, W.meth j hj, b, F⟩
theorem mk_il {d : He.DefD} (W : Wd K mg) (i j l : Nat) {c : Str} (hd : fn[i]? = some d) (h0 : d.dvs K = []) (hx : d.at_ = (c, some ("__init__" : Str))) (hj : fa[j]? = some (.mkr c)) (hl : fa[l]? = some (.glo c)) {N ps : List Str} {k : Nat} {sq : Sq} (S : FnScope N ps d.scope)
    (hb : ∀ (kV doc pm : Value) (an : Option Addr) (cdv ct : Value) (us : List Value), us.length = ps.length → bindArgs (PySem.W.fnOf d.name d.qual d.params d.body d.scope .none kV doc pm an cdv ct) ⟨us, []⟩ = pure (ps.zip us))
    (len : ∀ vs H Q, sq vs H Q → vs.length = ps.length)
    (body : ∀ (f : Addr) (cdv : Value) (A : Around) (outer : List Env) (s : Shared) (H : Hp) (vs : List V) (Q : VK) (E : XK), Room k (A.deeper (envOfC d.qual d.scope s.heap.objs.size f cdv)) → sq vs H Q →
      ∃ t, PSs (cxOf CX0 P w K mg base N d.qual d.scope f cdv A outer s H E).nox d.body t ∧ t { nx := fun _ H' => Q .non H', rt := Q } (start N vs) H) :
    Il P w K mg base c ps (k + 1) sq := by
  obtain ⟨fd, kp, b, F⟩ := fn_any (P := P) (w := w) (base := base) W i hd h0 S hb len body
  rw [hx] at F
  exact ⟨_, fd, W.glo l hl, W.mkr j hj, b, F⟩
theorem Cl.mono {x : Str} {ps : List Str} {j k : Nat} {sq : Sq} (c : Cl P w K mg base x ps j sq) (h : j ≤ k) : Cl P w K mg base x ps k sq := by
  obtain ⟨f, fd, a, b, d, F⟩ := c.ex
  exact ⟨f, fd, a, b, d, F.mono h⟩
theorem Ml.mono {C : Addr} {x : Str} {ps : List Str} {j k : Nat} {sq : Sq} (c : Ml P w K mg base C x ps j sq) (h : j ≤ k) : Ml P w K mg base C x ps k sq := by
  obtain ⟨f, fd, a, b, F⟩ := c.ex
  exact ⟨f, fd, a, b, F.mono h⟩
theorem Cl.imp {x : Str} {ps : List Str} {k : Nat} {sq sq' : Sq} (c : Cl P w K mg base x ps k sq) (h : ∀ vs H Q, sq' vs H Q → sq vs H Q) : Cl P w K mg base x ps k sq' := by
  obtain ⟨f, fd, a, b, d, F⟩ := c.ex
  exact ⟨f, fd, a, b, d, F.imp fun vs H Q E z => h vs H Q z⟩
theorem Ml.imp {C : Addr} {x : Str} {ps : List Str} {k : Nat} {sq sq' : Sq} (c : Ml P w K mg base C x ps k sq) (h : ∀ vs H Q, sq' vs H Q → sq vs H Q) : Ml P w K mg base C x ps k sq' := by
  obtain ⟨f, fd, a, b, F⟩ := c.ex
  exact ⟨f, fd, a, b, F.imp fun vs H Q E z => h vs H Q z⟩
end
section
variable {X : Cx} {e o : Expr} {es : List Expr} {t : TA} {ta te : TE} {pos p apos : Pos} {x m : Str} {ps : List Str} {k : Nat} {sq : Sq} {C : Addr}
theorem PE.imp {t t' : TE} (h : PE X e t) (i : ∀ σ H Q, t' σ H Q → t σ H Q) : PE X e t' := ⟨fun pins s σ H Q I q => h.run pins s σ H Q I (i _ _ _ q)⟩
theorem PT.imp {t t' : TT} (h : PT X e t) (i : ∀ σ H Q, t' σ H Q → t σ H Q) : PT X e t' := ⟨fun pins s σ H Q I q => h.run pins s σ H Q I (i _ _ _ q)⟩
def tFn (sq : Sq) (t : TA) : TE := fun σ H Q => t σ H fun vs H1 => sq vs H1 Q
theorem pe_fn (c : Cl X.prog X.w X.K X.mg X.base x ps k sq) (hr : Room k X.A) (hg : Gl X x)
    (ha : PA X (e :: es) t) (hdb : (x == ("__debug__" : Str)) = false := by decide) (he : starEach (e :: es) X.env = (false, eval e X.env) :: starEach es X.env := by rfl) (hpl : (backTo pos (starEach es X.env)).any (·.1) = false := by rfl) :
    PE X (.Call (.Name x p) (e :: es) [] pos) (tFn sq t) := by
  obtain ⟨f, fd, hm, hk, hb, F⟩ := c.ex
  refine PE.imp (pe_call F hr hg hm hk hb .nil pass0 ha hdb he hpl) fun σ H Q q => ?_
  unfold tFn at q
  show t σ H fun vs H1 => sq (vs ++ []) H1 Q
  simpa only [List.append_nil] using q
def tMt (C : Addr) (m : Str) (sq : Sq) (ta : TE) (t : TA) : TE := fun σ H Q => ta σ H fun x H1 => ∃ a dx fs, x = .ref a ∧ H1 a = some (.ins C dx fs) ∧ fs.lookup m = none ∧ t σ H1 fun vs H2 => sq (x :: vs) H2 Q
theorem pe_mt {pl : Sem Bool} (he : PE X o ta) (c : Cls X.K C) (M : Ml X.prog X.w X.K X.mg X.base C m ps k sq) (hr : Room k X.A) (ha : PA X (e :: es) t)
    (hst : starEach (e :: es) X.env = (false, eval e X.env) :: starEach es X.env := by rfl) (hpl : (backTo pos (starEach es X.env)).any (·.1) = false := by rfl)
    (ht : eval (.Call (.Attribute o m apos) (e :: es) [] pos) X.env = (do
      let ov ← eval o X.env
      standAt apos.atName
      let (f, first) ← holding [ov] (getMethod ov m pl)
      callWith pos f first (backTo pos (starEach (e :: es) X.env)) (backToKw pos (keywordEach [] X.env))) := by rfl) :
    PE X (.Call (.Attribute o m apos) (e :: es) [] pos) (tMt C m sq ta t) := by
  obtain ⟨f, fd, hm, hb, F⟩ := M.ex
  refine PE.imp (pe_meth (pl := pl) he c hm F hr hb .nil pass0 ha hst hpl ht) fun σ H Q q => ?_
  unfold tMeth tMt at *
  simpa only [List.append_nil] using q
theorem pe_mt0 {pl : Sem Bool} (he : PE X o ta) (c : Cls X.K C) (M : Ml X.prog X.w X.K X.mg X.base C m ps k sq) (hr : Room k X.A)
    (ht : eval (.Call (.Attribute o m apos) [] [] pos) X.env = (do
      let ov ← eval o X.env
      standAt apos.atName
      let (f, first) ← holding [ov] (getMethod ov m pl)
      callWith pos f first (backTo pos (starEach [] X.env)) (backToKw pos (keywordEach [] X.env))) := by rfl) :
    PE X (.Call (.Attribute o m apos) [] [] pos) (tMt C m sq ta tNil) := by
  obtain ⟨f, fd, hm, hb, F⟩ := M.ex
  refine PE.imp (pe_meth0 (pl := pl) he c hm F hr hb .nil pass0 ht) fun σ H Q q => ?_
  unfold tMeth tMt at *
  simpa only [List.append_nil] using q
def tMk (C : Addr) (sq : Sq) (t : TA) : TE := fun σ H Q => t σ H fun vs H1 => ∀ x dx, H1 x = none → H1 dx = none → dx ≠ x → sq (.ref x :: vs) (upd (upd H1 dx (.own x)) x (.ins C dx [])) (fun v H2 => v = .non ∧ Q (.ref x) H2)
theorem pe_mk (M : Il X.prog X.w X.K X.mg X.base x ps k sq) (hr : Room (k + 1) X.A) (hg : Gl X x)
    (ha : PA X (e :: es) t) (hdb : (x == ("__debug__" : Str)) = false := by decide) (he : starEach (e :: es) X.env = (false, eval e X.env) :: starEach es X.env := by rfl) (hpl : (backTo pos (starEach es X.env)).any (·.1) = false := by rfl) :
    PE X (.Call (.Name x p) (e :: es) [] pos) (tMk (He.ga X.K x) sq t) := by
  obtain ⟨f, fd, hm, M, hb, F⟩ := M.ex
  refine PE.imp (pe_make M F hr hg hm hb .nil pass0 ha hdb he hpl) fun σ H Q q => ?_
  unfold tMake tMk at *
  simpa only [List.append_nil] using q
theorem pe_mk0 (M : Il X.prog X.w X.K X.mg X.base x ps k sq) (hr : Room (k + 1) X.A) (hg : Gl X x) (hdb : (x == ("__debug__" : Str)) = false := by decide) :
    PE X (.Call (.Name x p) [] [] pos) (tMk (He.ga X.K x) sq tNil) := by
  obtain ⟨f, fd, hm, M, hb, F⟩ := M.ex
  refine PE.imp (pe_make0 M F hr hg hm hb .nil pass0 hdb) fun σ H Q q => ?_
  unfold tMake tMk at *
  simpa only [List.append_nil] using q
end
end Pk
namespace Pk
set_option autoImplicit false
set_option maxRecDepth 100000
set_option maxHeartbeats 2000000
open PySem PySem.Spec PyProof.Rows L2
/-! ### patterns as data -/
mutual
def pkey : Pat → NestedKey
  | .stay => .tup [.text "stay"]
  | .step s w => .tup [.text "step", .text s, .text w]
  | .att m => .tup [.text "at", .text m]
  | .off m => .tup [.text "off", .text m]
  | .thn ps => .tup [.text "then", .tup (pkeys ps)]
  | .eit ps => .tup [.text "either", .tup (pkeys ps)]
  | .many p => .tup [.text "many", pkey p]
def pkeys : List Pat → List NestedKey
  | [] => []
  | p :: ps => pkey p :: pkeys ps
end
theorem pkeys_map (ps : List Pat) : pkeys ps = ps.map pkey := by
  induction ps with
  | nil => rfl
  | cons p ps ih => rw [List.map_cons, ← ih] <;> rfl
def tagP : Pat → Str
  | .stay => "stay"
  | .step _ _ => "step"
  | .att _ => "at"
  | .off _ => "off"
  | .thn _ => "then"
  | .eit _ => "either"
  | .many _ => "many"
def restP : Pat → List NestedKey
  | .stay => []
  | .step s w => [.text s, .text w]
  | .att m => [.text m]
  | .off m => [.text m]
  | .thn ps => [.tup (pkeys ps)]
  | .eit ps => [.tup (pkeys ps)]
  | .many p => [pkey p]
theorem pkey_eq (p : Pat) : pkey p = .tup (.text (tagP p) :: restP p) := by cases p <;> rfl
/-- the parts of a pattern -/
def subs : Pat → List Pat
  | .thn ps => ps
  | .eit ps => ps
  | .many p => [p]
  | _ => []
theorem Dn.tup_inv {H : Hp} {v : V} {ks : List NestedKey} (h : Dn H v (.tup ks)) : ∃ a xs, v = .ref a ∧ H a = some (.tup xs) ∧ DnAll H xs ks := by
  cases h with
  | tup e r => exact ⟨_, _, rfl, e, r⟩
theorem Dn.text_inv {H : Hp} {v : V} {x : Str} (h : Dn H v (.text x)) : v = .str x := by
  cases h
  rfl
theorem Dn.num_inv {H : Hp} {v : V} {x : Int} (h : Dn H v (.num x)) : v = .int x := by
  cases h
  rfl
theorem DnAll.cons_inv {H : Hp} {vs : List V} {k : NestedKey} {ks : List NestedKey} (h : DnAll H vs (k :: ks)) : ∃ v us, vs = v :: us ∧ Dn H v k ∧ DnAll H us ks := by
  cases h with
  | cons a b => exact ⟨_, _, rfl, a, b⟩
theorem DnAll.nil_inv {H : Hp} {vs : List V} (h : DnAll H vs []) : vs = [] := by
  cases h
  rfl
theorem DnAll.texts {H : Hp} : ∀ {xs : List Str} {vs : List V}, DnAll H vs (xs.map NestedKey.text) ↔ vs = xs.map V.str
  | [], vs => ⟨fun h => h.nil_inv, fun e => by rw [e]; exact .nil⟩
  | x :: xs, vs => by
    constructor
    · intro h
      obtain ⟨v, us, rfl, a, b⟩ := DnAll.cons_inv h
      rw [a.text_inv, DnAll.texts.mp b] <;> rfl
    · intro e
      rw [e]
      exact .cons (.text _) (DnAll.texts.mpr rfl)
theorem DnAll.nums {H : Hp} : ∀ {xs : List Int} {vs : List V}, DnAll H vs (xs.map NestedKey.num) ↔ vs = xs.map V.int
  | [], vs => ⟨fun h => h.nil_inv, fun e => by rw [e]; exact .nil⟩
  | x :: xs, vs => by
    constructor
    · intro h
      obtain ⟨v, us, rfl, a, b⟩ := DnAll.cons_inv h
      rw [a.num_inv, DnAll.nums.mp b] <;> rfl
    · intro e
      rw [e]
      exact .cons (.num _) (DnAll.nums.mpr rfl)
/-- the tag stands first -/
theorem Dn.pat {H : Hp} {v : V} {p : Pat} (h : Dn H v (pkey p)) : ∃ a xs, v = .ref a ∧ H a = some (.tup (.str (tagP p) :: xs)) ∧ DnAll H xs (restP p) := by
  rw [pkey_eq] at h
  obtain ⟨a, xs, e, e2, r⟩ := h.tup_inv
  obtain ⟨t, us, rfl, d, r⟩ := r.cons_inv
  rw [d.text_inv] at e2
  exact ⟨a, us, e, e2, r⟩
inductive Tg where
  | stay | step | att | off | thn | eit | many
def tgS : Tg → Str
  | .stay => "stay"
  | .step => "step"
  | .att => "at"
  | .off => "off"
  | .thn => "then"
  | .eit => "either"
  | .many => "many"
def isTag : Tg → Pat → Bool
  | .stay, .stay => true
  | .step, .step _ _ => true
  | .att, .att _ => true
  | .off, .off _ => true
  | .thn, .thn _ => true
  | .eit, .eit _ => true
  | .many, .many _ => true
  | _, _ => false
theorem tag_dec (p : Pat) (q : Tg) : decide (tagP p = tgS q) = isTag q p := by
  cases p <;> cases q <;> first | rfl | (show decide _ = true; exact decide_eq_true rfl) | (show decide _ = false; exact decide_eq_false (by decide +kernel))
/-- o[n] of tracked data -/
def rKix : R2 := fun x y H Q => ∃ (n : Nat) (ks : List NestedKey) (k : NestedKey), y = .int n ∧ Dn H x (.tup ks) ∧ ks[n]? = some k ∧ ∀ u, Dn H u k → Q u H
/-- the tag of a pattern -/
def rTag : R2 := fun x y H Q => y = .int 0 ∧ ∃ p : Pat, Dn H x (pkey p) ∧ Q (.str (tagP p)) H
def rEqTag (q : Tg) : R2 := fun x y H Q => ∃ p : Pat, x = .str (tagP p) ∧ y = .str (tgS q) ∧ Q (.bl (isTag q p)) H
def rInTag (K : PySem.W.Frag) (qs : List Tg) : R2 := fun x y H Q => ∃ (p : Pat) (a : Addr), x = .str (tagP p) ∧ y = .ref a ∧ SqT K H a (qs.map fun q => V.str (tgS q)) ∧ Q (.bl (qs.any fun q => isTag q p)) H
/-- two texts -/
def rEqT : R2 := fun x y H Q => ∃ a b : Str, x = .str a ∧ y = .str b ∧ Q (.bl (decide (a = b))) H
def rNeT : R2 := fun x y H Q => ∃ a b : Str, x = .str a ∧ y = .str b ∧ Q (.bl (!decide (a = b))) H
def rEqN : R2 := fun x y H Q => ∃ a b : Int, x = .int a ∧ y = .int b ∧ Q (.bl (decide (a = b))) H
abbrev vn (n : Nat) : V := .int (n : Int)
/-- a text in a list or tuple of texts; a number in such -/
def rInT (K : PySem.W.Frag) : R2 := fun x y H Q => ∃ (a : Str) (p : Addr) (ts : List Str), x = .str a ∧ y = .ref p ∧ (SqL K H p (ts.map V.str) ∨ SqT K H p (ts.map V.str)) ∧ Q (.bl (decide (a ∈ ts))) H
def rNotInS (K : PySem.W.Frag) : R2 := fun x y H Q => ∃ (a : Str) (p : Addr) (ts : List Str), x = .str a ∧ y = .ref p ∧ (SqL K H p (ts.map V.str) ∨ SqT K H p (ts.map V.str)) ∧ Q (.bl (!decide (a ∈ ts))) H
def rInN (K : PySem.W.Frag) : R2 := fun x y H Q => ∃ (a : Nat) (p : Addr) (ts : List Nat), x = vn a ∧ y = .ref p ∧ (SqL K H p (ts.map vn) ∨ SqT K H p (ts.map vn)) ∧ Q (.bl (decide (a ∈ ts))) H
def rNotInN (K : PySem.W.Frag) : R2 := fun x y H Q => ∃ (a : Nat) (p : Addr) (ts : List Nat), x = vn a ∧ y = .ref p ∧ (SqL K H p (ts.map vn) ∨ SqT K H p (ts.map vn)) ∧ Q (.bl (!decide (a ∈ ts))) H
theorem inV_texts (a : Str) (ts : List Str) : inV (.str a) (ts.map V.str) = decide (a ∈ ts) := by
  unfold inV
  induction ts with
  | nil => rfl
  | cons t ts ih =>
    rw [List.map_cons, List.any_cons, ih, show eqV (V.str t) (V.str a) = (t == a) from rfl, Bool.eq_iff_iff, Bool.or_eq_true, beq_iff_eq, decide_eq_true_eq, decide_eq_true_eq, List.mem_cons]
    exact or_congr ⟨Eq.symm, Eq.symm⟩ Iff.rfl
theorem inV_nums (a : Nat) (ts : List Nat) : inV (vn a) (ts.map vn) = decide (a ∈ ts) := by
  unfold inV
  induction ts with
  | nil => rfl
  | cons t ts ih =>
    rw [List.map_cons, List.any_cons, ih, show eqV (vn t) (vn a) = ((t : Int) == (a : Int)) from rfl, Bool.eq_iff_iff, Bool.or_eq_true, beq_iff_eq, decide_eq_true_eq, decide_eq_true_eq, List.mem_cons]
    exact or_congr ⟨fun e => (Int.ofNat.inj e).symm, fun e => by rw [e]⟩ Iff.rfl
theorem flat_texts (ts : List Str) : (ts.map V.str).all flatV = true := by
  rw [List.all_eq_true]
  intro x hx
  obtain ⟨t, _, rfl⟩ := List.mem_map.mp hx
  rfl
theorem flat_nums (ts : List Nat) : (ts.map vn).all flatV = true := by
  rw [List.all_eq_true]
  intro x hx
  obtain ⟨t, _, rfl⟩ := List.mem_map.mp hx
  rfl
section
variable {X : Cx}
theorem OpR.imp {f : Value → Value → Sem Value} {r r' : R2} (h : OpR X f r) (i : ∀ x y H Q, r' x y H Q → r x y H Q) : OpR X f r' := fun pins s σ H x y v u Q I rx ry q => h pins s σ H x y v u Q I rx ry (i _ _ _ _ q)
theorem IxR.imp {r r' : R2} (h : IxR X r) (i : ∀ x y H Q, r' x y H Q → r x y H Q) : IxR X r' := fun value slice pins s σ H x y v u Q I rx ry q => h value slice pins s σ H x y v u Q I rx ry (i _ _ _ _ q)
theorem ix_key : IxR X rKix := IxR.imp ix_tup fun x y H Q q => by
  obtain ⟨n, ks, k, rfl, d, e, q⟩ := q
  obtain ⟨a, xs, rfl, e2, r⟩ := d.tup_inv
  obtain ⟨v, e3, dv⟩ := r.get e
  exact ⟨a, xs, n, v, rfl, rfl, .inl (.inl e2), atI_nat e3, q v dv⟩
theorem ix_tag : IxR X rTag := IxR.imp ix_tup fun x y H Q q => by
  obtain ⟨rfl, p, d, q⟩ := q
  obtain ⟨a, xs, rfl, e, r⟩ := d.pat
  exact ⟨a, _, 0, _, rfl, rfl, .inl (.inl e), atI_nat (j := 0) rfl, q⟩
theorem op_eqTag (q : Tg) : OpR X (compareOp .Eq) (rEqTag q) := OpR.imp op_eq fun x y H Q h => by
  obtain ⟨p, rfl, rfl, h⟩ := h
  refine ⟨rfl, ?_⟩
  have e : decide (V.str (tagP p) = V.str (tgS q)) = isTag q p := by
    rw [dec_str, ← tag_dec, Bool.eq_iff_iff]
    simp
  rw [e]
  exact h
theorem op_inTag (qs : List Tg) : OpR X (compareOp .In) (rInTag X.K qs) := OpR.imp op_in_seq fun x y H Q h => by
  obtain ⟨p, a, rfl, rfl, s, h⟩ := h
  have e0 : (qs.map fun q => V.str (tgS q)) = (qs.map tgS).map V.str := by rw [List.map_map] <;> rfl
  rw [e0] at s
  refine ⟨a, _, rfl, .inr s, rfl, flat_texts _, ?_⟩
  rw [inV_texts]
  have e : decide (tagP p ∈ qs.map tgS) = qs.any fun q => isTag q p := by
    rw [Bool.eq_iff_iff, decide_eq_true_eq, List.any_eq_true, List.mem_map]
    constructor
    · rintro ⟨q, m, e⟩
      exact ⟨q, m, by rw [← tag_dec, e]; exact decide_eq_true rfl⟩
    · rintro ⟨q, m, e⟩
      rw [← tag_dec, decide_eq_true_eq] at e
      exact ⟨q, m, e.symm⟩
  rw [e]
  exact h
theorem op_eqT : OpR X (compareOp .Eq) rEqT := OpR.imp op_eq fun x y H Q h => by
  obtain ⟨a, b, rfl, rfl, h⟩ := h
  refine ⟨rfl, ?_⟩
  rw [dec_str, show (a == b) = decide (a = b) from by rw [Bool.eq_iff_iff]; simp]
  exact h
theorem op_neT : OpR X (compareOp .NotEq) rNeT := OpR.imp op_ne fun x y H Q h => by
  obtain ⟨a, b, rfl, rfl, h⟩ := h
  refine ⟨rfl, ?_⟩
  rw [dec_str, show (a == b) = decide (a = b) from by rw [Bool.eq_iff_iff]; simp]
  exact h
theorem op_eqN : OpR X (compareOp .Eq) rEqN := OpR.imp op_eq fun x y H Q h => by
  obtain ⟨a, b, rfl, rfl, h⟩ := h
  refine ⟨rfl, ?_⟩
  rw [dec_int, show (a == b) = decide (a = b) from by rw [Bool.eq_iff_iff]; simp]
  exact h
theorem op_inT : OpR X (compareOp .In) (rInT X.K) := OpR.imp op_in_seq fun x y H Q h => by
  obtain ⟨a, p, ts, rfl, rfl, s, h⟩ := h
  refine ⟨p, _, rfl, s, rfl, flat_texts _, ?_⟩
  rw [inV_texts]
  exact h
theorem op_notInS : OpR X (compareOp .NotIn) (rNotInS X.K) := OpR.imp op_notIn_seq fun x y H Q h => by
  obtain ⟨a, p, ts, rfl, rfl, s, h⟩ := h
  refine ⟨p, _, rfl, s, rfl, flat_texts _, ?_⟩
  rw [inV_texts]
  exact h
theorem op_inN : OpR X (compareOp .In) (rInN X.K) := OpR.imp op_in_seq fun x y H Q h => by
  obtain ⟨a, p, ts, rfl, rfl, s, h⟩ := h
  refine ⟨p, _, rfl, s, rfl, flat_nums _, ?_⟩
  rw [inV_nums]
  exact h
theorem op_notInN : OpR X (compareOp .NotIn) (rNotInN X.K) := OpR.imp op_notIn_seq fun x y H Q h => by
  obtain ⟨a, p, ts, rfl, rfl, s, h⟩ := h
  refine ⟨p, _, rfl, s, rfl, flat_nums _, ?_⟩
  rw [inV_nums]
  exact h
end
/-! ### heaps -/
/-- a list of data, by itself -/
def Lk (H : Hp) (a : Addr) (ks : List NestedKey) : Prop := ∃ vs, H a = some (.lst vs) ∧ DnAll H vs ks
/-- a list of data, read -/
def Ls (K : PySem.W.Frag) (H : Hp) (a : Addr) (ks : List NestedKey) : Prop := ∃ vs, SqL K H a vs ∧ DnAll H vs ks
theorem Same.new {H : Hp} {p : Addr} {o : HO} (h : H p = none) : Same H (upd H p o) := fun b x e => by
  rw [upd_ne (ne_of_none e h)]
  exact e
/-- all but the object at a -/
def But (a : Addr) (H H' : Hp) : Prop := ∀ b o, H b = some o → b ≠ a → H' b = some o
theorem But.refl (a : Addr) (H : Hp) : But a H H := fun _ _ e _ => e
theorem But.trans {a : Addr} {H H1 H2 : Hp} (x : But a H H1) (y : But a H1 H2) : But a H H2 := fun b o e n => y b o (x b o e n) n
theorem But.of {a : Addr} {H H' : Hp} (x : Same H H') : But a H H' := fun b o e _ => x b o e
theorem But.upd {a : Addr} {H : Hp} {o : HO} : But a H (upd H a o) := fun b x e n => by
  rw [upd_ne n]
  exact e
theorem But.tps {a : Addr} {H H' : Hp} (x : But a H H') (h : ∀ xs, H a ≠ some (.tup xs)) : Tps H H' := fun b xs e => x b _ e fun z => h xs (z ▸ e)
/-- what was made anew and changed since -/
theorem But.same {a : Addr} {H H1 H2 : Hp} (h : H a = none) (s : Same H H1) (x : But a H1 H2) : Same H H2 := fun b o e => x b o (s b o e) (ne_of_none e h)
theorem small_ {n m : Nat} (h : n ≤ m) (k : m ≤ 100000) : n ≤ sizeLine := Nat.le_trans h (Nat.le_trans k (by decide))
theorem small_lt {n m : Nat} (h : n ≤ m) (k : m ≤ 100000) : n < sizeLine := Nat.lt_of_le_of_lt h (Nat.lt_of_le_of_lt k (by decide))
end Pk
namespace Pk
set_option autoImplicit false
set_option maxRecDepth 100000
set_option maxHeartbeats 4000000
open PySem PySem.Spec PyProof.Rows L2
theorem sc_parts_of : FnScope ["pattern"] ["pattern"] d_parts_of.scope := ⟨rfl, rfl, rfl, by decide +kernel, rfl, by decide +kernel, by decide +kernel⟩
theorem sc_all_parts : FnScope ["pattern", "found", "at"] ["pattern"] d_all_parts.scope := ⟨rfl, rfl, rfl, by decide +kernel, rfl, by decide +kernel, by decide +kernel⟩
theorem sc_words_in : FnScope ["pattern", "words", "part", "word"] ["pattern"] d_words_in.scope := ⟨rfl, rfl, rfl, by decide +kernel, rfl, by decide +kernel, by decide +kernel⟩
theorem sc_marks_in : FnScope ["pattern", "part"] ["pattern"] d_marks_in.scope := ⟨rfl, rfl, rfl, by decide +kernel, rfl, by decide +kernel, by decide +kernel⟩
section
variable {P : Program} {w : World} {K : PySem.W.Frag} {mg : Str → Option Value} {base : Heap}
def sqPartsOf : Sq := fun vs H Q => ∃ (v : V) (p : Pat), vs = [v] ∧ Dn H v (pkey p) ∧ sz p ≤ 1000 ∧ ∀ (a : Addr) (H' : Hp), Same H H' → H a = none → Lk H' a ((parts p).map pkey) → Q (.ref a) H'
theorem ok_parts_of (W : Wd K mg) : Cl P w K mg base "parts_of" ["pattern"] 1 sqPartsOf := by
  refine mk_cl W 0 0 (d := d_parts_of) rfl rfl rfl rfl sc_parts_of (fun _ _ _ _ _ _ us hl => match us, hl with | [_], _ => rfl) (fun vs H Q h => ?_) (fun f cdv A outer s H vs Q E hr h => ?_)
  · obtain ⟨v, p, rfl, _⟩ := h
    rfl
  · obtain ⟨v, p, rfl, hp, hz, q⟩ := h
    refine ⟨_, (pss_cons (ps_if (pt_cmpR (op_eqTag .many) (pe_ix ix_tag (pv 0) pe_int (fun _ _ => rfl)) pe_str (nomark _))
        (pss_one (ps_ret (pe_lst (pa_cons (pe_ix ix_key (pv 0) pe_int (fun _ _ => rfl)) pa_nil))))
        pss_nil)
      (pss_cons (ps_if (pt_cmpR (op_inTag [.thn, .eit]) (pe_ix ix_tag (pv 0) pe_int (fun _ _ => rfl)) (pe_tup (pa_cons pe_str (pa_cons pe_str pa_nil))) (by rfl))
        (pss_one (ps_ret (pe_callTy call_list_of (by rfl) (W.free 36) (by decide +kernel) (pa_cons (pe_ix ix_key (pv 0) pe_int (fun _ _ => rfl)) pa_nil))))
        pss_nil)
      (pss_one (ps_ret (pe_lst pa_nil))))), ?_⟩
    refine ⟨v, rfl, rfl, p, hp, p, rfl, rfl, _, rfl, ?_⟩
    cases p with
    | many p1 =>
      refine iteT ?_
      refine ⟨v, rfl, 1, _, _, rfl, hp, rfl, fun u hu => ⟨by show 1 ≤ sizeLine; decide, fun a na => ?_⟩⟩
      exact q a _ (Same.new na) na ⟨_, upd_same, .cons (hu.mono (Tps.new na)) .nil⟩
    | thn ps =>
      refine iteF ?_
      refine ⟨v, rfl, rfl, _, hp, by show 2 ≤ sizeLine; decide, fun t nt => ⟨_, t, rfl, rfl, .inl (.inl upd_same), _, rfl, ?_⟩⟩
      refine iteT ?_
      refine ⟨v, rfl, 1, _, _, rfl, hp.mono (Tps.new nt), rfl, fun u hu => ?_⟩
      obtain ⟨b, xs, rfl, e, r⟩ := hu.tup_inv
      refine ⟨b, xs, rfl, .inr (.inl (.inl e)), fun a na => ?_⟩
      have s1 := Same.new (o := .tup [V.str "then", V.str "either"]) nt
      exact q a _ (s1.trans (Same.new na)) (s1.free na) ⟨xs, upd_same, pkeys_map ps ▸ r.mono (Tps.new na)⟩
    | eit ps =>
      refine iteF ?_
      refine ⟨v, rfl, rfl, _, hp, by show 2 ≤ sizeLine; decide, fun t nt => ⟨_, t, rfl, rfl, .inl (.inl upd_same), _, rfl, ?_⟩⟩
      refine iteT ?_
      refine ⟨v, rfl, 1, _, _, rfl, hp.mono (Tps.new nt), rfl, fun u hu => ?_⟩
      obtain ⟨b, xs, rfl, e, r⟩ := hu.tup_inv
      refine ⟨b, xs, rfl, .inr (.inl (.inl e)), fun a na => ?_⟩
      have s1 := Same.new (o := .tup [V.str "then", V.str "either"]) nt
      exact q a _ (s1.trans (Same.new na)) (s1.free na) ⟨xs, upd_same, pkeys_map ps ▸ r.mono (Tps.new na)⟩
    | _ =>
      all_goals
        refine iteF ?_
        refine ⟨v, rfl, rfl, _, hp, by show 2 ≤ sizeLine; decide, fun t nt => ⟨_, t, rfl, rfl, .inl (.inl upd_same), _, rfl, ?_⟩⟩
        refine iteF ?_
        refine ⟨Nat.zero_le _, fun a na => ?_⟩
        have s1 := Same.new (o := .tup [V.str "then", V.str "either"]) nt
        exact q a _ (s1.trans (Same.new na)) (s1.free na) ⟨_, upd_same, .nil⟩
def sqAllParts : Sq := fun vs H Q => ∃ (v : V) (p : Pat), vs = [v] ∧ Dn H v (pkey p) ∧ sz p ≤ 1000 ∧
  ∀ (a : Addr) (qs : List Pat) (H' : Hp), Same H H' → H a = none → Lk H' a (qs.map pkey) → (∀ q, q ∈ qs ↔ Sub p q) → qs.length ≤ sz p → Q (.ref a) H'
theorem drop_szs {qs : List Pat} {i : Nat} {q : Pat} (h : qs[i]? = some q) : szs (qs.drop i) = sz q + szs (qs.drop (i + 1)) := by
  obtain ⟨hi, e⟩ := List.getElem?_eq_some_iff.mp h
  rw [List.drop_eq_getElem_cons hi, e] <;> rfl
theorem ok_all_parts (W : Wd K mg) : Cl P w K mg base "all_parts" ["pattern"] 2 sqAllParts := by
  refine mk_cl W 1 1 (d := d_all_parts) rfl rfl rfl rfl sc_all_parts (fun _ _ _ _ _ _ us hl => match us, hl with | [_], _ => rfl) (fun vs H Q h => ?_) (fun f cdv A outer s H vs Q E hr h => ?_)
  · obtain ⟨v, p, rfl, _⟩ := h
    rfl
  · obtain ⟨v, p, rfl, hp, hz, q⟩ := h
    have c_parts_of : Cl P w K mg base "parts_of" ["pattern"] 1 sqPartsOf := ok_parts_of W
    refine ⟨_, (pss_cons (ps_set (i := 1) sc_all_parts.nd rfl (Or.inl rfl) (pe_lst (pa_cons (pv 0) pa_nil)))
      (pss_cons (ps_set (i := 2) sc_all_parts.nd rfl (Or.inl rfl) pe_int)
      (pss_cons (ps_while PassesOwn.never (pt_cmpR op_lt (pv 2) (pe_callB call_len (by rfl) (W.free 32) PySem.boot_len (pa_cons (pv 1) pa_nil)) (nomark _))
        (pss_cons (ps_expr (pe_bm PySem.F.plainAttrs_list PySem.F.slot_list_extend PySem.F.type_list_extend mt_extend (pv 1) (pa_cons (pe_fn c_parts_of (hr.mono (by omega)) (by rfl) (pa_cons (pe_ix ix_list (pv 1) (pv 2) (fun _ _ => rfl)) pa_nil)) pa_nil)))
        (pss_one (ps_set (i := 2) sc_all_parts.nd rfl (Or.inl rfl) (pe_op op_add (pv 2) pe_int)))))
      (pss_one (ps_ret (pv 1)))))), ?_⟩
    refine ⟨v, rfl, by show 1 ≤ sizeLine; decide, fun l nl => ?_⟩
    obtain ⟨I, hI⟩ : ∃ I : Nat → L2.St → Hp → Prop, I = fun m σ H1 => ∃ (i : Nat) (qs : List Pat), σ = [some v, some (.ref l), some (vn i)] ∧ Same H H1 ∧ Lk H1 l (qs.map pkey) ∧ i ≤ qs.length ∧ (∀ x ∈ qs, Sub p x) ∧ p ∈ qs ∧
      (∀ j x y, j < i → qs[j]? = some x → y ∈ parts x → y ∈ qs) ∧ i + szs (qs.drop i) = sz p ∧ m + i = sz p := ⟨_, rfl⟩
    refine ⟨I, ⟨sz p, ?_⟩, ?_⟩
    · rw [hI]
      refine ⟨0, [p], rfl, Same.new nl, ⟨_, upd_same, .cons (hp.mono (Tps.new nl)) .nil⟩, Nat.zero_le _, ?_, by simp, fun j x y hj => by omega, by simp [szs], rfl⟩
      intro x hx
      rw [List.mem_singleton.mp hx]
      exact .refl
    · intro m σ H1 h
      rw [hI] at h
      obtain ⟨i, qs, rfl, s1, ⟨ys, el, dl⟩, hi, hs, hm, hc, he, hm2⟩ := h
      have hlen : ys.length = qs.length := by rw [dl.length, List.length_map]
      refine ⟨_, rfl, .ref l, rfl, _, _, rfl, .inl ⟨ys, .inl (.inl el), rfl⟩, i, _, rfl, rfl, _, rfl, ?_⟩
      refine ite2 (fun hlt => ?_) (fun hlt => ?_)
      · have hlt : i < qs.length := by
          have := of_decide_eq_true hlt
          omega
        have ex : qs[i]? = some qs[i] := List.getElem?_eq_getElem hlt
        have ek : (qs.map pkey)[i]? = some (pkey qs[i]) := by rw [List.getElem?_map, ex] <;> rfl
        obtain ⟨u, eu, du⟩ := dl.get ek
        have hd := drop_szs ex
        have hp2 := sz_parts qs[i]
        have hl2 := szs_len (qs.drop i)
        rw [List.length_drop] at hl2
        have hl3 := szs_len (parts qs[i])
        refine ⟨fun σ' H' => ∃ m', m' < m ∧ I m' σ' H', fun σ' H' h => h, ?_⟩
        refine ⟨.ref l, rfl, .inl ⟨rfl, _, .inl (.inl el)⟩, .ref l, rfl, _, rfl, l, ys, i, u, rfl, rfl, .inl (.inl el), atI_nat eu, u, qs[i], rfl, du, by omega, fun a H2 s2 na lk => ?_⟩
        obtain ⟨zs, ea, da⟩ := lk
        have el2 := s2 _ _ el
        have hzs : zs.length = (parts qs[i]).length := by rw [da.length, List.length_map]
        refine ⟨l, a, ys, zs, rfl, rfl, el2, ea, small_ (m := 2000) (by omega) (by decide), ?_⟩
        refine ⟨_, rfl, i, 1, rfl, rfl, m - 1, by omega, ?_⟩
        rw [hI]
        refine ⟨i + 1, qs ++ parts qs[i], rfl, ?_, ⟨_, upd_same, ?_⟩, by rw [List.length_append]; omega, ?_, List.mem_append_left _ hm, ?_, ?_, by omega⟩
        · exact But.same nl (Same.trans s1 s2) But.upd
        · rw [List.map_append]
          have t3 : Tps H2 (upd H2 l (.lst (ys ++ zs))) := Tps.mut el2 (by intro xs z; cases z)
          exact ((dl.mono (Same.tps s2)).mono t3).append (da.mono t3)
        · intro x hx
          rcases List.mem_append.mp hx with hx | hx
          · exact hs x hx
          · exact .part (hs _ (List.getElem_mem hlt)) hx
        · intro j x y hj ej hy
          by_cases e : j < i
          · rw [List.getElem?_append_left (by omega)] at ej
            exact List.mem_append_left _ (hc j x y e ej hy)
          · have e : j = i := by omega
            subst e
            rw [List.getElem?_append_left hlt, ex] at ej
            cases ej
            exact List.mem_append_right _ hy
        · rw [List.drop_append_of_le_length (by omega), szs_append]
          omega
      · have hge : i = qs.length := by
          have : ¬ ((i : Int) < (ys.length : Int)) := fun z => hlt (decide_eq_true z)
          omega
        refine ⟨.ref l, rfl, q l qs H1 s1 nl ⟨ys, el, dl⟩ (fun x => ⟨hs x, fun sx => ?_⟩) ?_⟩
        · induction sx with
          | refl => exact hm
          | part _ my ih =>
            obtain ⟨j, hj, e⟩ := List.getElem_of_mem ih
            exact hc j _ _ (by omega) (by rw [← e]; exact List.getElem?_eq_getElem hj) my
        · omega
end
end Pk
namespace Pk
set_option autoImplicit false
set_option maxRecDepth 100000
set_option maxHeartbeats 4000000
open PySem PySem.Spec PyProof.Rows L2
section
variable {P : Program} {w : World} {K : PySem.W.Frag} {mg : Str → Option Value} {base : Heap}
/-- the words of the steps among some patterns -/
def stW : List Pat → List Str
  | [] => []
  | .step _ w :: ps => w :: stW ps
  | _ :: ps => stW ps
theorem stW_append (ps qs : List Pat) : stW (ps ++ qs) = stW ps ++ stW qs := by
  induction ps with
  | nil => rfl
  | cons p ps ih => cases p <;> simp [stW, ih]
theorem mem_stW {w : Str} {ps : List Pat} : w ∈ stW ps ↔ ∃ s, Pat.step s w ∈ ps := by
  induction ps with
  | nil => simp [stW]
  | cons p ps ih => cases p <;> simp [stW, ih, or_and_right, exists_or]
theorem stW_len (ps : List Pat) : (stW ps).length ≤ ps.length := by
  induction ps with
  | nil => simp [stW]
  | cons p ps ih => cases p <;> simp [stW] <;> omega
def mkW : List Pat → List Str
  | [] => []
  | .att w :: ps => w :: mkW ps
  | .off w :: ps => w :: mkW ps
  | _ :: ps => mkW ps
theorem mkW_append (ps qs : List Pat) : mkW (ps ++ qs) = mkW ps ++ mkW qs := by
  induction ps with
  | nil => rfl
  | cons p ps ih => cases p <;> simp [mkW, ih]
theorem mem_mkW {w : Str} {ps : List Pat} : w ∈ mkW ps ↔ Pat.att w ∈ ps ∨ Pat.off w ∈ ps := by
  induction ps with
  | nil => simp [mkW]
  | cons p ps ih => cases p <;> simp [mkW, ih, or_assoc, or_left_comm]
theorem mkW_len (ps : List Pat) : (mkW ps).length ≤ ps.length := by
  induction ps with
  | nil => simp [mkW]
  | cons p ps ih => cases p <;> simp [mkW] <;> omega
theorem take_snoc {α : Type} {l : List α} {i : Nat} {x : α} (h : l[i]? = some x) : l.take (i + 1) = l.take i ++ [x] := by
  rw [List.take_add_one, h] <;> rfl
theorem DnAll.at_ {H : Hp} {vs : List V} {qs : List Pat} {i : Nat} {x : V} (d : DnAll H vs (qs.map pkey)) (h : vs[i]? = some x) : ∃ q, qs[i]? = some q ∧ Dn H x (pkey q) := by
  obtain ⟨k, e, dk⟩ := d.getV h
  rw [List.getElem?_map] at e
  cases e2 : qs[i]? with
  | none => rw [e2] at e; cases e
  | some q =>
    rw [e2] at e
    cases e
    exact ⟨q, rfl, dk⟩
def sqWordsIn : Sq := fun vs H Q => ∃ (v : V) (p : Pat), vs = [v] ∧ Dn H v (pkey p) ∧ sz p ≤ 1000 ∧
  ∀ (a : Addr) (H' : Hp), Same H H' → H a = none → H' a = some (.lst ((sset (wds p)).map V.str)) → Q (.ref a) H'
theorem ok_words_in (W : Wd K mg) : Cl P w K mg base "words_in" ["pattern"] 3 sqWordsIn := by
  refine mk_cl W 2 2 (d := d_words_in) rfl rfl rfl rfl sc_words_in (fun _ _ _ _ _ _ us hl => match us, hl with | [_], _ => rfl) (fun vs H Q h => ?_) (fun f cdv A outer s H vs Q E hr h => ?_)
  · obtain ⟨v, p, rfl, _⟩ := h
    rfl
  · obtain ⟨v, p, rfl, hp, hz, q⟩ := h
    have hu := hr.units
    have c_all_parts : Cl P w K mg base "all_parts" ["pattern"] 2 sqAllParts := ok_all_parts W
    obtain ⟨tA, hANY_WORD⟩ := W.str 67
    refine ⟨_, (pss_cons (ps_setLc (i := 1) (own := [("part", 2)]) rfl sc_words_in.nd rfl rfl (sw_true rfl rfl rfl (by decide +kernel)) (pi_list (pe_fn c_all_parts hr (by rfl) (pa_cons (pv 0) pa_nil))) (blkOk_by (own := [("part", 2)]) (N := ["pattern", "words", "part", "word"]) (sc := d_words_in.scope) (by decide +kernel)) (fun _ _ _ _ _ => (pg_name (i := 2) sc_words_in.nd rfl (Or.inl rfl))) (fun _ _ _ _ _ => (pts_one (pt_cmpR (op_eqTag .step) (pe_ix ix_tag (pv 2) pe_int (fun _ _ => rfl)) pe_str (nomark _)))) (fun _ _ _ _ _ => (pe_ix ix_key (pv 2) pe_int (fun _ _ => rfl))))
      (pss_one (ps_ret (pe_callB (call_sortS hu rfl) (by rfl) (W.free 33) (by decide +kernel) (pa_cons (pe_callTy (call_setS rfl) (by rfl) (W.free 34) (by decide +kernel) (pa_cons (pe_lc (own := [("word", 3)]) rfl sc_words_in.nd (pi_list (pv 1)) (blkOk_by (own := [("word", 3)]) (N := ["pattern", "words", "part", "word"]) (sc := d_words_in.scope) (by decide +kernel)) (fun _ _ _ _ _ => (pg_name (i := 3) sc_words_in.nd rfl (Or.inl rfl))) (fun _ _ _ _ _ => (pts_one (pt_cmpR op_neT (pv 3) (pe_glob (v := .str "*") rfl hANY_WORD ⟨_, rfl⟩) (nomark _)))) (fun _ _ _ _ _ => (pv 3))) pa_nil)) pa_nil))))), ?_⟩
    refine ⟨v, rfl, v, p, rfl, hp, hz, fun a qs H1 s1 na lk hq hl => ?_⟩
    obtain ⟨vs, ea, da⟩ := lk
    have hvl : vs.length = qs.length := by rw [da.length, List.length_map]
    refine ⟨a, rfl, ⟨_, .inl (.inl ea)⟩, fun D nD => lc_list (K := K) (a := a) (xs := vs) (fun i Hx => Same H1 Hx ∧ Hx D = some (.lst ((stW (qs.take i)).map V.str))) ⟨Same.new nD, upd_same⟩
      (fun i Hx _ ⟨sx, _⟩ => .inl (.inl (sx _ _ ea))) ?_ ?_⟩
    · rintro i x Hx hi ⟨sx, eD⟩
      obtain ⟨r, er, dr⟩ := da.at_ hi
      have dr := dr.mono (Same.tps sx)
      refine ⟨rfl, x, rfl, rfl, r, dr, r, rfl, rfl, _, rfl, ?_⟩
      rw [take_snoc er, stW_append]
      have hlen : (stW (qs.take i)).length ≤ 1000 := Nat.le_trans (stW_len _) (by rw [List.length_take]; omega)
      cases r with
      | step sd wd =>
        refine iteT ?_
        refine ⟨x, rfl, 2, _, _, rfl, dr, rfl, fun u du => ?_⟩
        rw [du.text_inv]
        refine ⟨_, eD, by rw [List.length_map]; exact small_lt hlen (by decide), ⟨But.same nD sx But.upd, ?_⟩⟩
        rw [upd_same, List.map_append] <;> rfl
      | _ =>
        all_goals
          refine iteF ?_
          rw [show stW [_] = [] from rfl, List.append_nil]
          exact ⟨sx, eD⟩
    · rintro Hx ⟨sx, eD⟩
      rw [hvl, List.take_length] at eD
      have hlen : (stW qs).length ≤ 1000 := Nat.le_trans (stW_len _) (by omega)
      have s2 : Same H Hx := Same.trans s1 sx
      refine ⟨.ref D, rfl, D, rfl, ⟨_, .inl (.inl eD)⟩, fun G nG => lc_list (K := K) (a := D) (xs := (stW qs).map V.str) (fun i Hy => Same Hx Hy ∧ Hy G = some (.lst ((((stW qs).take i).filter fun x => !decide (x = star)).map V.str))) ⟨Same.new nG, upd_same⟩
        (fun i Hy _ ⟨sy, _⟩ => .inl (.inl (sy _ _ eD))) ?_ ?_⟩
      · rintro i x Hy hi ⟨sy, eG⟩
        rw [List.getElem?_map] at hi
        cases ez : (stW qs)[i]? with
        | none => rw [ez] at hi; cases hi
        | some z =>
          rw [ez] at hi
          cases hi
          rw [take_snoc ez, List.filter_append]
          refine ⟨rfl, .str z, rfl, z, star, rfl, rfl, _, rfl, ?_⟩
          have hfl : ((((stW qs).take i).filter fun x => !decide (x = star)).map V.str).length ≤ 1000 := by
            rw [List.length_map]
            refine Nat.le_trans (List.length_filter_le _ _) ?_
            rw [List.length_take]
            omega
          refine ite2 (fun e => ?_) (fun e => ?_)
          · refine ⟨_, rfl, _, eG, small_lt hfl (by decide), But.same nG sy But.upd, ?_⟩
            rw [upd_same, List.map_append, List.filter_cons_of_pos (p := fun x => !decide (x = star)) e] <;> rfl
          · rw [List.filter_cons_of_neg (p := fun x => !decide (x = star)) e]
            rw [List.filter_nil, List.append_nil]
            exact ⟨sy, eG⟩
      · rintro Hy ⟨sy, eG⟩
        rw [List.length_map, List.take_length] at eG
        have s3 : Same H Hy := Same.trans s2 sy
        refine ⟨G, _, rfl, .inl (.inl (.inl eG)), ?_, fun S nS => ⟨S, _, rfl, upd_same, fun a nA => ?_⟩⟩
        · exact Nat.le_trans (List.length_filter_le _ _) (by omega)
        · refine q a _ ((Same.trans s3 (Same.new nS)).trans (Same.new nA)) ((Same.trans s3 (Same.new nS)).free nA) ?_
          rw [upd_same, sset_congr (ys := wds p)]
          intro x
          rw [List.mem_filter, mem_stW, mem_wds]
          simp only [hq, Bool.not_eq_true', decide_eq_false_iff_not]
          exact and_comm
def sqMarksIn : Sq := fun vs H Q => ∃ (v : V) (p : Pat), vs = [v] ∧ Dn H v (pkey p) ∧ sz p ≤ 1000 ∧
  ∀ (a : Addr) (H' : Hp), Same H H' → H a = none → H' a = some (.lst ((sset (mks p)).map V.str)) → Q (.ref a) H'
theorem ok_marks_in (W : Wd K mg) : Cl P w K mg base "marks_in" ["pattern"] 3 sqMarksIn := by
  refine mk_cl W 3 3 (d := d_marks_in) rfl rfl rfl rfl sc_marks_in (fun _ _ _ _ _ _ us hl => match us, hl with | [_], _ => rfl) (fun vs H Q h => ?_) (fun f cdv A outer s H vs Q E hr h => ?_)
  · obtain ⟨v, p, rfl, _⟩ := h
    rfl
  · obtain ⟨v, p, rfl, hp, hz, q⟩ := h
    have hu := hr.units
    have c_all_parts : Cl P w K mg base "all_parts" ["pattern"] 2 sqAllParts := ok_all_parts W
    refine ⟨_, (pss_one (ps_ret (pe_callB (call_sortS hu rfl) (by rfl) (W.free 33) (by decide +kernel) (pa_cons (pe_callTy (call_setS rfl) (by rfl) (W.free 34) (by decide +kernel) (pa_cons (pe_lc (own := [("part", 1)]) rfl sc_marks_in.nd (pi_list (pe_fn c_all_parts hr (by rfl) (pa_cons (pv 0) pa_nil))) (blkOk_by (own := [("part", 1)]) (N := ["pattern", "part"]) (sc := d_marks_in.scope) (by decide +kernel)) (fun _ _ _ _ _ => (pg_name (i := 1) sc_marks_in.nd rfl (Or.inl rfl))) (fun _ _ _ _ _ => (pts_one (pt_cmpR (show OpR _ _ (rInTag K [.att, .off]) from (op_inTag [.att, .off])) (pe_ix ix_tag (pv 1) pe_int (fun _ _ => rfl)) (pe_tup (pa_cons pe_str (pa_cons pe_str pa_nil))) (by rfl)))) (fun _ _ _ _ _ => (pe_ix ix_key (pv 1) pe_int (fun _ _ => rfl)))) pa_nil)) pa_nil)))), ?_⟩
    refine ⟨v, rfl, v, p, rfl, hp, hz, fun a qs H1 s1 na lk hq hl => ?_⟩
    obtain ⟨vs, ea, da⟩ := lk
    have hvl : vs.length = qs.length := by rw [da.length, List.length_map]
    refine ⟨a, rfl, ⟨_, .inl (.inl ea)⟩, fun D nD => lc_list (K := K) (a := a) (xs := vs) (fun i Hx => Same H1 Hx ∧ Hx D = some (.lst ((mkW (qs.take i)).map V.str))) ⟨Same.new nD, upd_same⟩
      (fun i Hx _ ⟨sx, _⟩ => .inl (.inl (sx _ _ ea))) ?_ ?_⟩
    · rintro i x Hx hi ⟨sx, eD⟩
      obtain ⟨r, er, dr⟩ := da.at_ hi
      have dr := dr.mono (Same.tps sx)
      refine ⟨rfl, x, rfl, rfl, r, dr, by show 2 ≤ sizeLine; decide, fun t nt => ⟨r, t, rfl, rfl, .inl (.inl upd_same), _, rfl, ?_⟩⟩
      have nDt : D ≠ t := ne_of_none eD nt
      have sx2 := Same.trans sx (Same.new (o := .tup [V.str "at", V.str "off"]) nt)
      have eD2 : (upd Hx t (.tup [V.str "at", V.str "off"])) D = some (.lst ((mkW (qs.take i)).map V.str)) := by rw [upd_ne nDt]; exact eD
      rw [take_snoc er, mkW_append]
      have hlen : (mkW (qs.take i)).length ≤ 1000 := Nat.le_trans (mkW_len _) (by rw [List.length_take]; omega)
      cases r with
      | att wd =>
        refine iteT ?_
        refine ⟨x, rfl, 1, _, _, rfl, dr.mono (Tps.new nt), rfl, fun u du => ?_⟩
        rw [du.text_inv]
        refine ⟨_, eD2, by rw [List.length_map]; exact small_lt hlen (by decide), ⟨But.same nD sx2 But.upd, ?_⟩⟩
        rw [upd_same, List.map_append] <;> rfl
      | off wd =>
        refine iteT ?_
        refine ⟨x, rfl, 1, _, _, rfl, dr.mono (Tps.new nt), rfl, fun u du => ?_⟩
        rw [du.text_inv]
        refine ⟨_, eD2, by rw [List.length_map]; exact small_lt hlen (by decide), ⟨But.same nD sx2 But.upd, ?_⟩⟩
        rw [upd_same, List.map_append] <;> rfl
      | _ =>
        all_goals
          refine iteF ?_
          rw [show mkW [_] = [] from rfl, List.append_nil]
          exact ⟨sx2, eD2⟩
    · rintro Hx ⟨sx, eD⟩
      rw [hvl, List.take_length] at eD
      have hlen : (mkW qs).length ≤ 1000 := Nat.le_trans (mkW_len _) (by omega)
      have s2 : Same H Hx := Same.trans s1 sx
      refine ⟨D, _, rfl, .inl (.inl (.inl eD)), by omega, fun S nS => ⟨S, _, rfl, upd_same, fun a nA => ?_⟩⟩
      refine q a _ ((Same.trans s2 (Same.new nS)).trans (Same.new nA)) ((Same.trans s2 (Same.new nS)).free nA) ?_
      rw [upd_same, sset_congr (ys := mks p)]
      intro x
      rw [mem_mkW, mem_mks]
      simp only [hq]
end
end Pk
namespace Pk
set_option autoImplicit false
set_option maxRecDepth 100000
set_option maxHeartbeats 4000000
open PySem PySem.Spec PyProof.Rows L2
theorem sc_Maker_init : FnScope ["self"] ["self"] d_Maker_init.scope := ⟨rfl, rfl, rfl, by decide +kernel, rfl, by decide +kernel, by decide +kernel⟩
theorem sc_Maker_fresh : FnScope ["self"] ["self"] d_Maker_fresh.scope := ⟨rfl, rfl, rfl, by decide +kernel, rfl, by decide +kernel, by decide +kernel⟩
theorem sc_Maker_lay : FnScope ["self", "pattern", "one", "other", "part", "middle"] ["self", "pattern", "one", "other"] d_Maker_lay.scope := ⟨rfl, rfl, rfl, by decide +kernel, rfl, by decide +kernel, by decide +kernel⟩
theorem sc_Maker_lay_row : FnScope ["self", "parts", "one", "other", "here", "place", "there"] ["self", "parts", "one", "other"] d_Maker_lay_row.scope := ⟨rfl, rfl, rfl, by decide +kernel, rfl, by decide +kernel, by decide +kernel⟩
theorem sc_machine_of : FnScope ["pattern", "maker"] ["pattern"] d_machine_of.scope := ⟨rfl, rfl, rfl, by decide +kernel, rfl, by decide +kernel, by decide +kernel⟩
/-! ### a heap that has changed at some objects only -/
def Kp (S : List Addr) (H H' : Hp) : Prop := ∀ b o, H b = some o → b ∉ S → H' b = some o
theorem Kp.refl (S : List Addr) (H : Hp) : Kp S H H := fun _ _ e _ => e
theorem Kp.trans {S : List Addr} {H H1 H2 : Hp} (x : Kp S H H1) (y : Kp S H1 H2) : Kp S H H2 := fun b o e n => y b o (x b o e n) n
theorem Kp.of {S : List Addr} {H H' : Hp} (x : Same H H') : Kp S H H' := fun b o e _ => x b o e
theorem Kp.new {S : List Addr} {H : Hp} {p : Addr} {o : HO} (h : H p = none) : Kp S H (upd H p o) := Kp.of (Same.new h)
theorem Kp.mut {S : List Addr} {H : Hp} {p : Addr} {o : HO} (h : p ∈ S) : Kp S H (upd H p o) := fun b u e n => by
  rw [upd_ne (show b ≠ p from fun z => n (by rw [z]; exact h))]
  exact e
theorem Kp.mono {S T : List Addr} {H H' : Hp} (x : Kp S H H') (h : ∀ b ∈ S, b ∈ T) : Kp T H H' := fun b o e n => x b o e fun m => n (h b m)
theorem Kp.tps {S : List Addr} {H H' : Hp} (x : Kp S H H') (h : ∀ b ∈ S, ∀ xs, H b ≠ some (.tup xs)) : Tps H H' := fun b xs e => x b _ e fun m => h b m xs e
theorem Kp.same {S : List Addr} {H H1 H2 : Hp} (s : Same H H1) (x : Kp S H1 H2) (h : ∀ b ∈ S, H b = none) : Same H H2 := fun b o e => x b o (s b o e) fun m => by
  rw [h b m] at e
  cases e
/-! ### moves as data -/
def mkey (mv : Move) : NestedKey := .tup [.num mv.1, pkey mv.2.1, .num mv.2.2]
def isLeaf : Pat → Bool
  | .thn _ => false
  | .eit _ => false
  | .many _ => false
  | _ => true
theorem key_tag {p q : Pat} (h : pkey p = pkey q) (T : Tg) : isTag T p = isTag T q := by
  rw [pkey_eq, pkey_eq] at h
  simp only [NestedKey.tup.injEq, List.cons.injEq, NestedKey.text.injEq] at h
  rw [← tag_dec, ← tag_dec, h.1]
mutual
theorem pkey_inj : ∀ p q : Pat, pkey p = pkey q → p = q
  | .stay, q, h => by
    have t := key_tag h .stay
    cases q <;> first | rfl | cases t
  | .step s v, q, h => by
    have t := key_tag h .step
    cases q with
    | step s' v' => simp only [pkey, NestedKey.tup.injEq, List.cons.injEq, NestedKey.text.injEq] at h; obtain ⟨_, rfl, rfl, _⟩ := h; rfl
    | _ => cases t
  | .att m, q, h => by
    have t := key_tag h .att
    cases q with
    | att m' => simp only [pkey, NestedKey.tup.injEq, List.cons.injEq, NestedKey.text.injEq] at h; obtain ⟨_, rfl, _⟩ := h; rfl
    | _ => cases t
  | .off m, q, h => by
    have t := key_tag h .off
    cases q with
    | off m' => simp only [pkey, NestedKey.tup.injEq, List.cons.injEq, NestedKey.text.injEq] at h; obtain ⟨_, rfl, _⟩ := h; rfl
    | _ => cases t
  | .thn ps, q, h => by
    have t := key_tag h .thn
    cases q with
    | thn qs => simp only [pkey, NestedKey.tup.injEq, List.cons.injEq] at h; rw [pkeys_inj ps qs h.2.1]
    | _ => cases t
  | .eit ps, q, h => by
    have t := key_tag h .eit
    cases q with
    | eit qs => simp only [pkey, NestedKey.tup.injEq, List.cons.injEq] at h; rw [pkeys_inj ps qs h.2.1]
    | _ => cases t
  | .many p, q, h => by
    have t := key_tag h .many
    cases q with
    | many q => simp only [pkey, NestedKey.tup.injEq, List.cons.injEq] at h; rw [pkey_inj p q h.2.1]
    | _ => cases t
theorem pkeys_inj : ∀ ps qs : List Pat, pkeys ps = pkeys qs → ps = qs
  | [], [], _ => rfl
  | [], _ :: _, h => by simp [pkeys] at h
  | _ :: _, [], h => by simp [pkeys] at h
  | p :: ps, q :: qs, h => by
    simp only [pkeys, List.cons.injEq] at h
    rw [pkey_inj p q h.1, pkeys_inj ps qs h.2]
end
theorem mkey_inj {a b : Move} (h : mkey a = mkey b) : a = b := by
  obtain ⟨a1, a2, a3⟩ := a
  obtain ⟨b1, b2, b3⟩ := b
  simp only [mkey, NestedKey.tup.injEq, List.cons.injEq, NestedKey.num.injEq] at h
  obtain ⟨h1, h2, h3, _⟩ := h
  rw [Int.ofNat.inj h1, pkey_inj _ _ h2, Int.ofNat.inj h3]
theorem mem_mkey {mv : Move} {ms : List Move} : mkey mv ∈ ms.map mkey ↔ mv ∈ ms :=
  ⟨fun h => by obtain ⟨x, m, e⟩ := List.mem_map.mp h; exact mkey_inj e ▸ m, List.mem_map_of_mem⟩
theorem mkey_depth {mv : Move} (h : isLeaf mv.2.1 = true) : (mkey mv).depth ≤ 8 := by
  obtain ⟨a, l, b⟩ := mv
  cases l <;> first | (show (2 : Nat) ≤ 8; decide) | cases h
open Classical in
noncomputable def addM (ms : List Move) (mv : Move) : List Move := if mv ∈ ms then ms else ms ++ [mv]
theorem addM_old {ms : List Move} {mv : Move} (h : mv ∈ ms) : addM ms mv = ms := by unfold addM; rw [if_pos h]
theorem addM_new {ms : List Move} {mv : Move} (h : mv ∉ ms) : addM ms mv = ms ++ [mv] := by unfold addM; rw [if_neg h]
structure Grew (ms ms' ls : List Move) : Prop where
  mem : ∀ mv, mv ∈ ms' ↔ mv ∈ ms ∨ mv ∈ ls
  len : ms'.length ≤ ms.length + ls.length
theorem Grew.refl (ms : List Move) : Grew ms ms [] := ⟨fun mv => by simp, by simp⟩
theorem Grew.trans {a b c l r : List Move} (x : Grew a b l) (y : Grew b c r) : Grew a c (l ++ r) :=
  ⟨fun mv => by rw [y.mem, x.mem, List.mem_append, or_assoc], by have := x.len; have := y.len; rw [List.length_append]; omega⟩
theorem Grew.one (ms : List Move) (mv : Move) : Grew ms (addM ms mv) [mv] := by
  by_cases h : mv ∈ ms
  · rw [addM_old h]
    exact ⟨fun x => by rw [List.mem_singleton]; exact ⟨.inl, fun z => z.elim id fun e => e ▸ h⟩, by simp⟩
  · rw [addM_new h]
    exact ⟨fun x => by rw [List.mem_append], by simp⟩
mutual
theorem lay_len : ∀ (p : Pat) (a b n : Nat), (lay p a b n).length ≤ 3 * sz p
  | .stay, a, b, n => by simp [lay, sz]
  | .step s v, a, b, n => by simp [lay, sz]
  | .att m, a, b, n => by simp [lay, sz]
  | .off m, a, b, n => by simp [lay, sz]
  | .thn ps, a, b, n => by have := layRow_len ps a b n; simp only [lay, sz]; omega
  | .eit ps, a, b, n => by have := layAny_len ps a b n; simp only [lay, sz]; omega
  | .many p, a, b, n => by have := lay_len p n n (n + 1); simp only [lay, sz, List.length_cons]; omega
theorem layAny_len : ∀ (ps : List Pat) (a b n : Nat), (layAny ps a b n).length ≤ 3 * szs ps
  | [], a, b, n => by simp [layAny]
  | p :: ps, a, b, n => by have := lay_len p a b n; have := layAny_len ps a b (n + fr p); simp only [layAny, szs, List.length_append]; omega
theorem layRow_len : ∀ (ps : List Pat) (a b n : Nat), (layRow ps a b n).length ≤ 3 * szs ps + 1
  | [], a, b, n => by simp [layRow]
  | [p], a, b, n => by have := lay_len p a b n; simp only [layRow, szs]; omega
  | p :: q :: r, a, b, n => by have := lay_len p a n (n + 1); have := layRow_len (q :: r) n b (n + 1 + fr p); simp only [layRow, szs, List.length_append] at *; omega
end
def mflds (d : Addr) (n : Nat) : List (Str × V) := [("size", vn n), ("laid", .ref d)]
theorem mflds_size (d : Addr) (n : Nat) : (mflds d n).lookup ("size" : Str) = some (vn n) := by kernel_rfl
theorem mflds_laid (d : Addr) (n : Nat) : (mflds d n).lookup ("laid" : Str) = some (.ref d) := by kernel_rfl
theorem mflds_lay (d : Addr) (n : Nat) : (mflds d n).lookup ("lay" : Str) = none := by kernel_rfl
theorem mflds_row (d : Addr) (n : Nat) : (mflds d n).lookup ("lay_row" : Str) = none := by kernel_rfl
theorem mflds_fresh (d : Addr) (n : Nat) : (mflds d n).lookup ("fresh" : Str) = none := by kernel_rfl
theorem mflds_put (d : Addr) (n k : Nat) : putF "size" (vn k) (mflds d n) = mflds d k := by kernel_rfl
theorem mflds_new (d : Addr) : putF "laid" (.ref d) (putF "size" (.int 2) []) = mflds d 2 := by kernel_rfl
/-- a maker stands at m, its dict at d -/
structure MkS (P : Program) (w : World) (K : PySem.W.Frag) (H : Hp) (m d : Addr) (n : Nat) (ms : List Move) : Prop where
  ob : ∃ dx, H m = some (.ins (He.ga K "Maker") dx (mflds d n))
  dc : ∃ xs : List NEnt, H d = some (DN P w d xs) ∧ (∀ x ∈ xs, Dn H (.ref x.2.1) x.1) ∧ xs.map (·.1) = ms.map mkey ∧ ∀ x ∈ xs, x.2.2 = .bl true
  nd : ms.Nodup
  leaf : ∀ mv ∈ ms, isLeaf mv.2.1 = true
section
variable {P : Program} {w : World} {K : PySem.W.Frag} {mg : Str → Option Value} {base : Heap} {H : Hp} {m d : Addr} {n : Nat} {ms : List Move}
theorem MkS.nt (S : MkS P w K H m d n ms) : ∀ b ∈ [m, d], ∀ xs, H b ≠ some (.tup xs) := by
  intro b hb xs e
  obtain ⟨dx, e1⟩ := S.ob
  obtain ⟨ys, e2, _⟩ := S.dc
  rcases List.mem_cons.mp hb with rfl | hb
  · rw [e1] at e; cases e
  · rw [List.mem_singleton.mp hb, e2] at e; cases e
theorem MkS.ne (S : MkS P w K H m d n ms) : m ≠ d := by
  obtain ⟨dx, e1⟩ := S.ob
  obtain ⟨ys, e2, _⟩ := S.dc
  exact ne_of e1 e2 (by intro z; cases z)
theorem MkS.keep {H' : Hp} (S : MkS P w K H m d n ms) (s : Same H H') : MkS P w K H' m d n ms where
  ob := let ⟨dx, e⟩ := S.ob; ⟨dx, s _ _ e⟩
  dc := let ⟨xs, e, k, f, g⟩ := S.dc; ⟨xs, s _ _ e, fun x hx => (k x hx).mono (Same.tps s), f, g⟩
  nd := S.nd
  leaf := S.leaf
theorem MkS.ok {X : Cx} (S : MkS X.prog X.w K H m d n ms) (hl : ms.length ≤ 100000) : ∃ xs, DnOk X H d xs ∧ xs.length = ms.length ∧ xs.map (·.1) = ms.map mkey ∧ ∀ x ∈ xs, x.2.2 = .bl true := by
  obtain ⟨xs, e, k, f, g⟩ := S.dc
  have hlen : xs.length = ms.length := by rw [← List.length_map (f := (·.1)), f, List.length_map]
  refine ⟨xs, ⟨e, fun x hx => ⟨k x hx, ?_⟩, ?_, fun x hx => by rw [g x hx] <;> rfl, by omega⟩, hlen, f, g⟩
  · have : x.1 ∈ ms.map mkey := f ▸ List.mem_map_of_mem hx
    obtain ⟨mv, hm, e⟩ := List.mem_map.mp this
    rw [← e]
    exact mkey_depth (S.leaf mv hm)
  · rw [f]
    exact List.Pairwise.map mkey (fun a b h e => h (mkey_inj e)) S.nd
theorem MkS.put {X : Cx} (S : MkS X.prog X.w K H m d n ms) {b : Addr} {mv : Move} (hb : Dn H (.ref b) (mkey mv)) (hf : isLeaf mv.2.1 = true) (hl : ms.length < 1000) :
    ∃ xs, DnOk X H d xs ∧ xs.length < 100000 ∧ MkS X.prog X.w K (upd H d (DN X.prog X.w d (putN xs (mkey mv) b (.bl true)))) m d n (addM ms mv) := by
  obtain ⟨xs, D, hx, f, g⟩ := S.ok (X := X) (by omega)
  refine ⟨xs, D, by omega, ?_⟩
  have D2 := D.put hb (mkey_depth hf) (v := .bl true) rfl (by omega)
  refine ⟨?_, ⟨putN xs (mkey mv) b (.bl true), D2.at_, fun x hx => (D2.keys x hx).1, ?_, fun x hx => ?_⟩, ?_, fun x hx => ?_⟩
  · obtain ⟨dx, e⟩ := S.ob
    exact ⟨dx, by rw [upd_ne S.ne]; exact e⟩
  · rw [putN_fst, f]
    by_cases h : mv ∈ ms
    · rw [if_pos (mem_mkey.mpr h), addM_old h]
    · rw [if_neg (fun z => h (mem_mkey.mp z)), addM_new h, List.map_append] <;> rfl
  · by_cases h : mkey mv ∈ xs.map (·.1)
    · rw [putN_old h] at hx
      obtain ⟨y, hy, e⟩ := List.mem_map.mp hx
      by_cases e2 : y.1 = mkey mv
      · rw [if_pos e2] at e
        rw [← e]
      · rw [if_neg e2] at e
        rw [← e]
        exact g y hy
    · rw [putN_new h] at hx
      rcases List.mem_append.mp hx with hx | hx
      · exact g x hx
      · rw [List.mem_singleton.mp hx]
  · by_cases h : mv ∈ ms
    · rw [addM_old h]; exact S.nd
    · rw [addM_new h]
      refine List.nodup_append.mpr ⟨S.nd, by simp, fun a ha c hc e => ?_⟩
      rw [List.mem_singleton.mp hc] at e
      exact h (e ▸ ha)
  · by_cases h : mv ∈ ms
    · rw [addM_old h] at hx; exact S.leaf x hx
    · rw [addM_new h] at hx
      rcases List.mem_append.mp hx with hx | hx
      · exact S.leaf x hx
      · rw [List.mem_singleton.mp hx]; exact hf
def sqMInit (P : Program) (w : World) (K : PySem.W.Frag) : Sq := fun vs H Q => ∃ (m dx : Addr), vs = [.ref m] ∧ H m = some (.ins (He.ga K "Maker") dx []) ∧
  ∀ (d : Addr) (H' : Hp), H d = none → Kp [m] H H' → MkS P w K H' m d 2 [] → Q .non H'
theorem ok_Maker_init (W : Wd K mg) : Il P w K mg base "Maker" ["self"] 1 (sqMInit P w K) := by
  refine mk_il W 4 46 44 (d := d_Maker_init) rfl rfl rfl rfl rfl sc_Maker_init (fun _ _ _ _ _ _ us hl => match us, hl with | [_], _ => rfl) (fun vs H Q h => ?_) (fun f cdv A outer s H vs Q E hr h => ?_)
  · obtain ⟨m, dx, rfl, _⟩ := h
    rfl
  · obtain ⟨m, dx, rfl, hm, q⟩ := h
    refine ⟨_, (pss_cons (ps_fld (pv 0) pe_int rfl)
      (pss_one (ps_fld (pv 0) pe_dnewN rfl))), ?_⟩
    refine ⟨.ref m, rfl, m, _, dx, [], rfl, hm, W.cls 45, W.noat 50, by show 0 < 1000; decide, fun d nd => ?_⟩
    have nmd : m ≠ d := ne_of_none (upd_same (H := H)) nd
    have nd0 : H d = none := by rw [upd_ne nmd.symm] at nd; exact nd
    refine ⟨.ref m, rfl, m, _, dx, _, rfl, by rw [upd_ne nmd]; exact upd_same, W.cls 45, W.noat 51, by show 1 < 1000; decide, ?_⟩
    refine q d _ nd0 (((Kp.mut (by simp)).trans (Kp.new nd)).trans (Kp.mut (by simp))) ⟨⟨dx, Eq.trans upd_same (congrArg (fun l => some (HO.ins _ dx l)) (mflds_new d))⟩, ⟨[], ?_, fun x hx => (by cases hx), rfl, fun x hx => (by cases hx)⟩, List.nodup_nil, fun x hx => (by cases hx)⟩
    rw [upd_ne nmd.symm]
    exact upd_same
def sqFresh (P : Program) (w : World) (K : PySem.W.Frag) : Sq := fun vs H Q => ∃ (m d : Addr) (n : Nat) (ms : List Move), vs = [.ref m] ∧ MkS P w K H m d n ms ∧
  ∀ (H' : Hp), Kp [m] H H' → MkS P w K H' m d (n + 1) ms → Q (vn n) H'
theorem ok_Maker_fresh (W : Wd K mg) : Ml P w K mg base (He.ga K "Maker") "fresh" ["self"] 1 (sqFresh P w K) := by
  refine mk_ml W 5 47 (d := d_Maker_fresh) rfl rfl rfl rfl sc_Maker_fresh (fun _ _ _ _ _ _ us hl => match us, hl with | [_], _ => rfl) (fun vs H Q h => ?_) (fun f cdv A outer s H vs Q E hr h => ?_)
  · obtain ⟨m, d, n, ms, rfl, _⟩ := h
    rfl
  · obtain ⟨m, d, n, ms, rfl, S, q⟩ := h
    refine ⟨_, (pss_cons (ps_fld (pv 0) (pe_op op_add (pe_fld (pv 0) rfl) pe_int) rfl)
      (pss_one (ps_ret (pe_op op_sub (pe_fld (pv 0) rfl) pe_int)))), ?_⟩
    obtain ⟨dx, e⟩ := S.ob
    have t : Tps H (upd H m (.ins (He.ga K "Maker") dx (mflds d (n + 1)))) := Tps.mut e (by intro xs z; cases z)
    have S2 : MkS P w K (upd H m (.ins (He.ga K "Maker") dx (mflds d (n + 1)))) m d (n + 1) ms := ⟨⟨dx, upd_same⟩, by
      obtain ⟨xs, a, b, c, g⟩ := S.dc
      exact ⟨xs, by rw [upd_ne S.ne.symm]; exact a, fun x hx => (b x hx).mono t, c, g⟩, S.nd, S.leaf⟩
    refine ⟨.ref m, rfl, m, _, dx, _, _, rfl, e, W.cls 45, W.noat 50, mflds_size d n, _, _, rfl, rfl, .ref m, rfl, m, _, dx, _, rfl, e, W.cls 45, W.noat 50, by show 2 < 1000; decide, ?_⟩
    have e0 : putF "size" (.int ((n : Int) + 1)) (mflds d n) = mflds d (n + 1) := mflds_put d n (n + 1)
    rw [e0]
    refine ⟨.ref m, rfl, m, _, dx, _, _, rfl, upd_same, W.cls 45, W.noat 50, mflds_size d (n + 1), _, _, rfl, rfl, ?_⟩
    have e1 : ((n + 1 : Nat) : Int) - 1 = (n : Int) := by omega
    show Q (V.int (((n + 1 : Nat) : Int) - 1)) _
    rw [e1]
    exact q _ (Kp.mut (by simp)) S2
end
end Pk
namespace Pk
set_option autoImplicit false
set_option maxRecDepth 100000
set_option maxHeartbeats 4000000
open PySem PySem.Spec PyProof.Rows L2
section
variable {P : Program} {w : World} {K : PySem.W.Frag} {mg : Str → Option Value} {base : Heap} {H : Hp} {m d : Addr} {n : Nat} {ms : List Move}
def sqLay (P : Program) (w : World) (K : PySem.W.Frag) (N : Nat) : Sq := fun vs H Q => ∃ (m d : Addr) (n : Nat) (ms : List Move) (v : V) (p : Pat) (a b : Nat), vs = [.ref m, v, vn a, vn b] ∧ MkS P w K H m d n ms ∧ Dn H v (pkey p) ∧ sz p ≤ N ∧ okK (pkey p) ∧ (pkey p).depth ≤ 40 ∧ ms.length + 3 * sz p ≤ 900 ∧
  ∀ (ms' : List Move) (H' : Hp), Kp [m, d] H H' → MkS P w K H' m d (n + fr p) ms' → Grew ms ms' (lay p a b n) → Q .non H'
def sqRow (P : Program) (w : World) (K : PySem.W.Frag) (N : Nat) : Sq := fun vs H Q => ∃ (m d : Addr) (n : Nat) (ms : List Move) (t : Addr) (us : List V) (ps : List Pat) (a b : Nat), vs = [.ref m, .ref t, vn a, vn b] ∧ MkS P w K H m d n ms ∧ H t = some (.tup us) ∧ DnAll H us (ps.map pkey) ∧ szs ps ≤ N ∧ (∀ p ∈ ps, okK (pkey p) ∧ (pkey p).depth ≤ 40) ∧ ms.length + 3 * szs ps + 3 ≤ 900 ∧
  ∀ (ms' : List Move) (H' : Hp), Kp [m, d] H H' → MkS P w K H' m d (n + (frs ps + (ps.length - 1))) ms' → Grew ms ms' (layRow ps a b n) → Q .non H'
theorem lay0 (W : Wd K mg) : Ml P w K mg base (He.ga K "Maker") "lay" ["self", "pattern", "one", "other"] 1 (sqLay P w K 0) := by
  refine mk_ml W 6 48 (d := d_Maker_lay) rfl rfl rfl rfl sc_Maker_lay (fun _ _ _ _ _ _ us hl => match us, hl with | [_, _, _, _], _ => rfl) (fun vs H Q h => ?_) (fun f cdv A outer s H vs Q E hr h => ?_)
  · obtain ⟨m, d, n, ms, v, p, a, b, rfl, _⟩ := h
    rfl
  · obtain ⟨m, d, n, ms, v, p, a, b, rfl, _, _, hz, _⟩ := h
    have := sz_pos p
    omega
theorem okK_mem {ps : List Pat} : (okKs (pkeys ps) → ∀ p ∈ ps, okK (pkey p)) ∧ ((∀ p ∈ ps, okK (pkey p)) → okKs (pkeys ps)) := by
  induction ps with
  | nil => exact ⟨fun _ p h => (by cases h), fun _ => (by simp only [pkeys, okKs])⟩
  | cons p ps ih =>
    simp only [pkeys, okKs]
    refine ⟨fun h q hq => ?_, fun h => ⟨h p List.mem_cons_self, ih.2 fun q hq => h q (List.mem_cons_of_mem _ hq)⟩⟩
    rcases List.mem_cons.mp hq with rfl | hq
    · exact h.1
    · exact ih.1 h.2 q hq
theorem depth_mem {ps : List Pat} {p : Pat} (h : p ∈ ps) : (pkey p).depth ≤ NestedKey.depthAll (pkeys ps) := by
  induction ps with
  | nil => cases h
  | cons q ps ih =>
    show _ ≤ max (pkey q).depth (NestedKey.depthAll (pkeys ps))
    rcases List.mem_cons.mp h with rfl | h
    · exact Nat.le_max_left _ _
    · exact Nat.le_trans (ih h) (Nat.le_max_right _ _)
theorem ok_lay_row {k N : Nat} (W : Wd K mg) (m_lay : Ml P w K mg base (He.ga K "Maker") "lay" ["self", "pattern", "one", "other"] (k + 1) (sqLay P w K N)) :
    Ml P w K mg base (He.ga K "Maker") "lay_row" ["self", "parts", "one", "other"] (k + 2) (sqRow P w K N) := by
  refine mk_ml W 7 49 (d := d_Maker_lay_row) rfl rfl rfl rfl sc_Maker_lay_row (fun _ _ _ _ _ _ us hl => match us, hl with | [_, _, _, _], _ => rfl) (fun vs H Q h => ?_) (fun f cdv A outer s H vs Q E hr h => ?_)
  · obtain ⟨m, d, n, ms, t, us, ps, a, b, rfl, _⟩ := h
    rfl
  · obtain ⟨m, d, n, ms, t, us, ps, a, b, rfl, S, ht, du, hz, okp, hl, q⟩ := h
    have hu := hr.units
    have m_fresh : Ml P w K mg base (He.ga K "Maker") "fresh" ["self"] 1 (sqFresh P w K) := ok_Maker_fresh W
    have hul : us.length = ps.length := by rw [du.length, List.length_map]
    refine ⟨_, (pss_cons (ps_if (pt_cmpR (op_eqD hu) (pv 1) (pe_tup pa_nil) (nomark _))
        (pss_one (ps_dputN hu (pe_fld (pv 0) rfl) (pe_tup (pa_cons (pv 2) (pa_cons (pe_tup (pa_cons pe_str pa_nil)) (pa_cons (pv 3) pa_nil)))) pe_bl rfl))
        pss_nil)
      (pss_cons (ps_set (i := 4) sc_Maker_lay_row.nd rfl (Or.inl rfl) (pv 2))
      (pss_one (ps_for PassesOwn.never rfl (pi_range1 (by rfl) (W.free 35) (pa_cons (pe_callB call_len (by rfl) (W.free 32) PySem.boot_len (pa_cons (pv 1) pa_nil)) pa_nil)) (pg_name (i := 5) sc_Maker_lay_row.nd rfl (Or.inl rfl))
        (pss_cons (ps_set (i := 6) sc_Maker_lay_row.nd rfl (Or.inl rfl) (pv 3))
        (pss_cons (ps_if (pt_cmpR op_lt (pv 5) (pe_op op_sub (pe_callB call_len (by rfl) (W.free 32) PySem.boot_len (pa_cons (pv 1) pa_nil)) pe_int) (nomark _))
          (pss_one (ps_set (i := 6) sc_Maker_lay_row.nd rfl (Or.inl rfl) (pe_mt0 (pv 0) (W.cls 45) m_fresh (hr.mono (by omega)))))
          pss_nil)
        (pss_cons (ps_expr (pe_mt (pv 0) (W.cls 45) m_lay (hr.mono (by omega)) (pa_cons (pe_ix ix_tup (pv 1) (pv 5) (fun _ _ => rfl)) (pa_cons (pv 4) (pa_cons (pv 6) pa_nil)))))
        (pss_one (ps_set (i := 4) sc_Maker_lay_row.nd rfl (Or.inl rfl) (pv 6)))))))))), ?_⟩
    have okl : okKs (pkeys ps) := okK_mem.2 fun p h => (okp p h).1
    have dpl : NestedKey.depthAll (pkeys ps) ≤ 60 := by
      rw [pkeys_map]
      refine depthAll_le fun k hk => ?_
      obtain ⟨p, hp, rfl⟩ := List.mem_map.mp hk
      have := (okp p hp).2
      omega
    refine ⟨.ref t, rfl, Nat.zero_le _, fun e ne => ⟨.tuple (NestedKey.datas (pkeys ps)), .tuple [], .tup (.inl (.inl (by rw [upd_ne (ne_of_none ht ne)]; exact ht))) (((pkeys_map ps).symm ▸ du).mono (Tps.new ne)).dp, .tup (.inl (.inl upd_same)) .nil, shaped_tuple dpl okl, rfl, _, rfl, ?_⟩⟩
    have S0 := S
    have S := S.keep (Same.new (o := .tup []) ne)
    have ht1 : (upd H e (.tup [])) t = some (.tup us) := by rw [upd_ne (ne_of_none ht ne)]; exact ht
    have du1 := du.mono (Tps.new (o := .tup []) ne)
    have k1 : Kp [m, d] H (upd H e (.tup [])) := Kp.new ne
    cases ps with
    | nil =>
      refine iteT ?_
      obtain ⟨dx, e1⟩ := S.ob
      refine ⟨.ref m, rfl, m, _, dx, _, _, rfl, e1, W.cls 45, W.noat 51, mflds_laid d n, vn a, rfl, by show 1 ≤ sizeLine; decide, fun y ny => ⟨vn b, rfl, by show 3 ≤ sizeLine; decide, fun z nz => ?_⟩⟩
      have S2 := (S.keep (Same.new (o := .tup [V.str "stay"]) ny)).keep (Same.new (o := .tup [vn a, .ref y, vn b]) nz)
      have hz2 : Dn (upd (upd (upd H e (.tup [])) y (.tup [V.str "stay"])) z (.tup [vn a, .ref y, vn b])) (.ref z) (mkey (a, .stay, b)) :=
        .tup upd_same (.cons (.num _) (.cons (.tup (by rw [upd_ne (ne_of_none upd_same nz)]; exact upd_same) (.cons (.text _) .nil)) (.cons (.num _) .nil)))
      obtain ⟨xs, D, hlx, S3⟩ := S2.put (X := (cxOf CX0 P w K mg base ["self", "parts", "one", "other", "here", "place", "there"] d_Maker_lay_row.qual d_Maker_lay_row.scope f cdv A outer s H E).nox) hz2 rfl (by omega)
      refine ⟨d, xs, _, z, rfl, rfl, D, hz2, mkey_depth rfl, rfl, hlx, ?_⟩
      have k3 : Kp [m, d] H _ := ((k1.trans (Kp.new (o := .tup [V.str "stay"]) ny)).trans (Kp.new (o := .tup [vn a, .ref y, vn b]) nz)).trans (Kp.mut (p := d) (o := DN P w d (putN xs (mkey (a, .stay, b)) z (.bl true))) (by simp))
      have ht3 := k3 _ _ ht fun hm => (S0.nt t hm _ ht)
      refine ⟨vn a, rfl, .ref t, rfl, .ref t, 0, rfl, .inr ⟨us, .inl (.inl ht3), by rw [hul]; rfl⟩, 0, rfl, by decide, by decide, for_range (n := 0) (fun i σ H' => H' = _) rfl (fun i σ H' hi => absurd hi (Nat.not_lt_zero _)) ?_⟩
      intro σ H' e
      subst e
      exact q _ _ k3 S3 (Grew.one ms _)
    | cons p0 pr =>
      refine iteF ?_
      obtain ⟨ps, eps⟩ : ∃ ps, ps = p0 :: pr := ⟨_, rfl⟩
      rw [← eps] at du1 okp hz hl hul q
      have hL : 1 ≤ ps.length := by rw [eps]; simp
      refine ⟨vn a, rfl, .ref t, rfl, .ref t, ps.length, rfl, .inr ⟨us, .inl (.inl ht1), by rw [hul]⟩, (ps.length : Int), rfl, by omega, ?_, for_range (n := ps.length) (fun i σ H' => ∃ (h n1 : Nat) (ms1 : List Move) (pre : List Move) (v5 v6 : Option V),
        σ = [some (.ref m), some (.ref t), some (vn a), some (vn b), some (vn h), v5, v6] ∧ Kp [m, d] H H' ∧ MkS P w K H' m d n1 ms1 ∧ Grew ms ms1 pre ∧ ms1.length + 3 * szs (ps.drop i) ≤ ms.length + 3 * szs ps ∧
        ((i < ps.length ∧ layRow ps a b n = pre ++ layRow (ps.drop i) h b n1 ∧ n1 + frs (ps.drop i) + (ps.length - i - 1) = n + (frs ps + (ps.length - 1))) ∨
        (i = ps.length ∧ layRow ps a b n = pre ∧ n1 = n + (frs ps + (ps.length - 1))))) ?_ ?_ ?_⟩
      · have := szs_len ps
        omega
      · exact ⟨a, n, ms, [], none, none, rfl, k1, S, Grew.refl ms, by simp, .inl ⟨by omega, rfl, by rw [List.drop_zero]; omega⟩⟩
      · rintro i σ H1 hi ⟨h, n1, ms1, pre, v5, v6, rfl, kk, S1, g1, hlen, hc⟩
        have tt := kk _ _ ht fun hm => S0.nt t hm _ ht
        have ep : ps[i]? = some ps[i] := List.getElem?_eq_getElem hi
        obtain ⟨pi, epi⟩ : ∃ pi, pi = ps[i] := ⟨_, rfl⟩
        rw [← epi] at ep
        have pim : pi ∈ ps := by rw [epi]; exact List.getElem_mem hi
        obtain ⟨u, eu, du2⟩ := (du.mono (kk.tps S0.nt)).get (i := i) (k := pkey pi) (by rw [List.getElem?_map, ← eps, ep] <;> rfl)
        have ed : ps.drop i = pi :: ps.drop (i + 1) := by rw [List.drop_eq_getElem_cons hi, epi]
        rw [ed] at hc hlen
        simp only [szs] at hlen
        have hzi := szs_mem pim
        have hlb : ms1.length + 3 * sz pi ≤ 900 := by omega
        rcases hc with ⟨_, hrow, hn⟩ | ⟨e, _⟩
        rotate_left
        · omega
        refine ⟨vn b, rfl, _, rfl, .ref t, rfl, .ref t, ps.length, rfl, .inr ⟨us, .inl (.inl tt), by rw [hul]⟩, _, _, rfl, rfl, _, _, rfl, rfl, _, rfl, ?_⟩
        refine ite2 (fun hlt => ?_) (fun hlt => ?_)
        · have hlt : i + 1 < ps.length := by
            have := of_decide_eq_true hlt
            omega
          obtain ⟨dx1, e1⟩ := S1.ob
          refine ⟨.ref m, rfl, m, dx1, _, rfl, e1, mflds_fresh d _, m, d, n1, ms1, rfl, S1, fun H2 k2 S2 => ?_⟩
          have k2' : Kp [m, d] H1 H2 := k2.mono (by simp)
          have tt2 := k2' _ _ tt fun hm => S1.nt t hm _ tt
          obtain ⟨dx2, e2⟩ := S2.ob
          refine ⟨.ref m, rfl, m, dx2, _, rfl, e2, mflds_lay d _, .ref t, rfl, _, rfl, t, us, _, u, rfl, rfl, .inl (.inl tt2), (by rw [Int.zero_add]; exact atI_nat eu), vn h, rfl, vn n1, rfl, ?_⟩
          refine ⟨m, d, (n1 + 1), ms1, u, pi, h, n1, rfl, S2, (du2.mono (k2'.tps S1.nt)), by have := szs_mem pim; omega, (okp pi pim).1, (okp pi pim).2, by omega, fun ms3 H3 k3 S3 g3 => ?_⟩
          have gl := lay_len pi h n1 (n1 + 1)
          have gl2 := g3.len
          refine ⟨vn n1, rfl, n1, _, ms3, pre ++ lay pi h n1 (n1 + 1), _, _, rfl, (kk.trans k2').trans k3, S3, g1.trans g3, by omega, ?_⟩
          left
          have ed2 : ps.drop (i + 1) = ps[i + 1] :: ps.drop (i + 1 + 1) := List.drop_eq_getElem_cons hlt
          refine ⟨hlt, ?_, ?_⟩
          · rw [hrow, ed2, layRow, List.append_assoc]
          · rw [frs] at hn
            omega
        · have hge : i + 1 = ps.length := by
            have : ¬ ((0 : Int) + i < (ps.length : Int) - 1) := fun z => hlt (decide_eq_true z)
            omega
          obtain ⟨dx2, e2⟩ := S1.ob
          have ed3 : ps.drop (i + 1) = [] := List.drop_eq_nil_of_le (by omega)
          refine ⟨.ref m, rfl, m, dx2, _, rfl, e2, mflds_lay d _, .ref t, rfl, _, rfl, t, us, _, u, rfl, rfl, .inl (.inl tt), (by rw [Int.zero_add]; exact atI_nat eu), vn h, rfl, vn b, rfl, ?_⟩
          refine ⟨m, d, n1, ms1, u, pi, h, b, rfl, S1, du2, by have := szs_mem pim; omega, (okp pi pim).1, (okp pi pim).2, by omega, fun ms3 H3 k3 S3 g3 => ?_⟩
          have gl := lay_len pi h b n1
          have gl2 := g3.len
          refine ⟨vn b, rfl, b, _, ms3, pre ++ lay pi h b n1, _, _, rfl, kk.trans k3, S3, g1.trans g3, by omega, ?_⟩
          right
          rw [ed3] at hrow hn
          refine ⟨hge, ?_, ?_⟩
          · rw [hrow, layRow]
          · simp only [frs] at hn
            omega
      · rintro σ H1 ⟨h, n1, ms1, pre, v5, v6, rfl, kk, S1, g1, hlen, hc⟩
        rcases hc with ⟨z, _⟩ | ⟨_, e1, e2⟩
        · omega
        · rw [e2] at S1
          exact q ms1 H1 kk S1 (e1 ▸ g1)
theorem dn_stay {H : Hp} {y z : Addr} {a b : Nat} (nz : upd H y (.tup [V.str "stay"]) z = none) : Dn (upd (upd H y (.tup [V.str "stay"])) z (.tup [vn a, .ref y, vn b])) (.ref z) (mkey (a, .stay, b)) :=
  .tup upd_same (.cons (.num _) (.cons (.tup (by rw [upd_ne (ne_of_none upd_same nz)]; exact upd_same) (.cons (.text _) .nil)) (.cons (.num _) .nil)))
theorem Wd.leaves (W : Wd K mg) (H : Hp) : SqT K H (He.ga K "LEAVES") [.str "stay", .str "step", .str "at", .str "off"] :=
  He.tupB_ok (vs := [.str "stay", .str "step", .str "at", .str "off"]) (He.ba W.tabs).1 H
theorem Wd.sides (W : Wd K mg) (H : Hp) : SqT K H (He.ga K "SIDES") [.str "on", .str "back"] :=
  He.tupB_ok (vs := [.str "on", .str "back"]) (He.ba W.tabs).2 H
theorem ok_lay {k N : Nat} (W : Wd K mg) (m_lay : Ml P w K mg base (He.ga K "Maker") "lay" ["self", "pattern", "one", "other"] (k + 1) (sqLay P w K N)) (m_lay_row : Ml P w K mg base (He.ga K "Maker") "lay_row" ["self", "parts", "one", "other"] (k + 2) (sqRow P w K N)) :
    Ml P w K mg base (He.ga K "Maker") "lay" ["self", "pattern", "one", "other"] (k + 3) (sqLay P w K (N + 1)) := by
  refine mk_ml W 6 48 (d := d_Maker_lay) rfl rfl rfl rfl sc_Maker_lay (fun _ _ _ _ _ _ us hl => match us, hl with | [_, _, _, _], _ => rfl) (fun vs H Q h => ?_) (fun f cdv A outer s H vs Q E hr h => ?_)
  · obtain ⟨m, d, n, ms, v, p, a, b, rfl, _⟩ := h
    rfl
  · obtain ⟨m, d, n, ms, v, p, a, b, rfl, S, hp, hz, okp, hdp, hl, q⟩ := h
    have hu := hr.units
    have m_fresh : Ml P w K mg base (He.ga K "Maker") "fresh" ["self"] 1 (sqFresh P w K) := ok_Maker_fresh W
    refine ⟨_, (pss_one (ps_if (pt_cmpR (op_inTag [.stay, .step, .att, .off]) (pe_ix ix_tag (pv 1) pe_int (fun _ _ => rfl)) (pe_glob (v := .ref (He.ga K "LEAVES")) rfl (W.glo 69) rfl) (by rfl))
        (pss_one (ps_dputN hu (pe_fld (pv 0) rfl) (pe_tup (pa_cons (pv 2) (pa_cons (pv 1) (pa_cons (pv 3) pa_nil)))) pe_bl rfl))
        (pss_one (ps_if (pt_cmpR (op_eqTag .eit) (pe_ix ix_tag (pv 1) pe_int (fun _ _ => rfl)) pe_str (nomark _))
          (pss_one (ps_for PassesOwn.never rfl (pi_tup (pe_ix ix_key (pv 1) pe_int (fun _ _ => rfl))) (pg_name (i := 4) sc_Maker_lay.nd rfl (Or.inl rfl))
            (pss_one (ps_expr (pe_mt (pv 0) (W.cls 45) m_lay (hr.mono (by omega)) (pa_cons (pv 4) (pa_cons (pv 2) (pa_cons (pv 3) pa_nil))))))))
          (pss_one (ps_if (pt_cmpR (op_eqTag .many) (pe_ix ix_tag (pv 1) pe_int (fun _ _ => rfl)) pe_str (nomark _))
            (pss_cons (ps_set (i := 5) sc_Maker_lay.nd rfl (Or.inl rfl) (pe_mt0 (pv 0) (W.cls 45) m_fresh (hr.mono (by omega))))
            (pss_cons (ps_dputN hu (pe_fld (pv 0) rfl) (pe_tup (pa_cons (pv 2) (pa_cons (pe_tup (pa_cons pe_str pa_nil)) (pa_cons (pv 5) pa_nil)))) pe_bl rfl)
            (pss_cons (ps_dputN hu (pe_fld (pv 0) rfl) (pe_tup (pa_cons (pv 5) (pa_cons (pe_tup (pa_cons pe_str pa_nil)) (pa_cons (pv 3) pa_nil)))) pe_bl rfl)
            (pss_one (ps_expr (pe_mt (pv 0) (W.cls 45) m_lay (hr.mono (by omega)) (pa_cons (pe_ix ix_key (pv 1) pe_int (fun _ _ => rfl)) (pa_cons (pv 5) (pa_cons (pv 5) pa_nil)))))))))
            (pss_one (ps_expr (pe_mt (pv 0) (W.cls 45) m_lay_row (hr.mono (by omega)) (pa_cons (pe_ix ix_key (pv 1) pe_int (fun _ _ => rfl)) (pa_cons (pv 2) (pa_cons (pv 3) pa_nil)))))))))))), ?_⟩
    obtain ⟨dx, e1⟩ := S.ob
    refine ⟨v, rfl, rfl, p, hp, p, _, rfl, rfl, W.leaves H, _, rfl, ?_⟩
    by_cases hf : isLeaf p = true
    · have e0 : ([Tg.stay, .step, .att, .off].any fun q => isTag q p) = true := by cases p <;> first | rfl | cases hf
      rw [e0]
      refine iteT ?_
      obtain ⟨va, rfl⟩ : ∃ va, v = .ref va := by
        obtain ⟨va, _, e, _⟩ := hp.pat
        exact ⟨va, e⟩
      refine ⟨.ref m, rfl, m, _, dx, _, _, rfl, e1, W.cls 45, W.noat 51, mflds_laid d n, vn a, rfl, _, rfl, vn b, rfl, by show 3 ≤ sizeLine; decide, fun z nz => ?_⟩
      have S2 := S.keep (Same.new (o := .tup [vn a, .ref va, vn b]) nz)
      have hz2 : Dn (upd H z (.tup [vn a, .ref va, vn b])) (.ref z) (mkey (a, p, b)) := .tup upd_same (.cons (.num _) (.cons (hp.mono (Tps.new nz)) (.cons (.num _) .nil)))
      obtain ⟨xs, D, hlx, S3⟩ := S2.put (X := (cxOf CX0 P w K mg base ["self", "pattern", "one", "other", "part", "middle"] d_Maker_lay.qual d_Maker_lay.scope f cdv A outer s H E).nox) hz2 hf (by omega)
      refine ⟨d, xs, _, z, rfl, rfl, D, hz2, mkey_depth hf, rfl, hlx, ?_⟩
      have k3 : Kp [m, d] H _ := (Kp.new (o := .tup [vn a, .ref va, vn b]) nz).trans (Kp.mut (p := d) (o := DN P w d (putN xs (mkey (a, p, b)) z (.bl true))) (by simp))
      have ef : fr p = 0 := by cases p <;> first | rfl | cases hf
      have el : lay p a b n = [(a, p, b)] := by cases p <;> first | rfl | cases hf
      refine q _ _ k3 ?_ (el ▸ Grew.one ms _)
      rw [ef]
      exact S3
    · cases p with
      | thn ps =>
        refine iteF ?_
        refine ⟨v, rfl, rfl, _, hp, _, rfl, rfl, _, rfl, ?_⟩
        refine iteF ?_
        refine ⟨v, rfl, rfl, _, hp, _, rfl, rfl, _, rfl, ?_⟩
        refine iteF ?_
        refine ⟨.ref m, rfl, m, dx, _, rfl, e1, mflds_row d n, v, rfl, 1, _, _, rfl, hp, rfl, fun u hu' => ?_⟩
        obtain ⟨t, us, rfl, et, du⟩ := hu'.tup_inv
        rw [pkeys_map] at du
        simp only [pkey, okK, okKs] at okp
        have okm := okK_mem.1 okp.2.1
        simp only [sz] at hz hl
        refine ⟨vn a, rfl, vn b, rfl, m, d, n, ms, t, us, ps, a, b, rfl, S, et, du, by omega, fun p hp => ⟨okm p hp, ?_⟩, by omega, fun ms' H' k' S' g' => q ms' H' k' S' g'⟩
        have h1 := depth_mem hp
        have h2 : NestedKey.depthAll (pkeys ps) + 2 ≤ 40 := by
          have : (pkey (.thn ps)).depth = max 0 (max (NestedKey.depthAll (pkeys ps) + 1) 0) + 1 := rfl
          omega
        omega
      | eit ps =>
        refine iteF ?_
        refine ⟨v, rfl, rfl, _, hp, _, rfl, rfl, _, rfl, ?_⟩
        refine iteT ?_
        refine ⟨v, rfl, 1, _, _, rfl, hp, rfl, fun u hu' => ?_⟩
        obtain ⟨t, us, rfl, et, du⟩ := hu'.tup_inv
        rw [pkeys_map] at du
        simp only [pkey, okK, okKs] at okp
        have okm := okK_mem.1 okp.2.1
        simp only [sz] at hz hl
        have h2 : NestedKey.depthAll (pkeys ps) + 2 ≤ 40 := by
          have : (pkey (.eit ps)).depth = max 0 (max (NestedKey.depthAll (pkeys ps) + 1) 0) + 1 := rfl
          omega
        have hul : us.length = ps.length := by rw [du.length, List.length_map]
        refine ⟨t, rfl, ⟨us, .inl (.inl et)⟩, for_tup (K := K) (a := t) (xs := us) (fun i σ H' => ∃ (n1 : Nat) (ms1 : List Move) (pre : List Move) (v4 : Option V),
          σ = [some (.ref m), some v, some (vn a), some (vn b), v4, none] ∧ Kp [m, d] H H' ∧ MkS P w K H' m d n1 ms1 ∧ Grew ms ms1 pre ∧ ms1.length + 3 * szs (ps.drop i) ≤ ms.length + 3 * szs ps ∧
          layAny ps a b n = pre ++ layAny (ps.drop i) a b n1 ∧ n1 + frs (ps.drop i) = n + frs ps) ?_ ?_ ?_ ?_⟩
        · exact ⟨n, ms, [], none, rfl, Kp.refl _ _, S, Grew.refl ms, by simp, rfl, by rw [List.drop_zero]⟩
        · rintro i σ H1 hi ⟨n1, ms1, pre, v4, rfl, kk, S1, _⟩
          exact .inl (.inl (kk _ _ et fun hm => S.nt t hm _ et))
        · rintro i x σ H1 hi ⟨n1, ms1, pre, v4, rfl, kk, S1, g1, hlen, hlay, hn⟩
          obtain ⟨pi, ep, du2⟩ := (du.mono (kk.tps S.nt)).at_ hi
          have hil : i < ps.length := (List.getElem?_eq_some_iff.mp ep).1
          have pim : pi ∈ ps := List.mem_of_getElem? ep
          have ed : ps.drop i = pi :: ps.drop (i + 1) := by
            rw [List.drop_eq_getElem_cons hil, (List.getElem?_eq_some_iff.mp ep).2]
          rw [ed] at hlen hlay hn
          simp only [szs] at hlen
          have hzi := szs_mem pim
          have hdi := depth_mem pim
          obtain ⟨dx2, e2⟩ := S1.ob
          refine ⟨.ref m, rfl, m, dx2, _, rfl, e2, mflds_lay d _, x, rfl, vn a, rfl, vn b, rfl, m, d, n1, ms1, x, pi, a, b, rfl, S1, du2, by omega, okm pi pim, by omega, by omega, fun ms3 H3 k3 S3 g3 => ?_⟩
          have gl := lay_len pi a b n1
          have gl2 := g3.len
          refine ⟨_, ms3, pre ++ lay pi a b n1, _, rfl, kk.trans k3, S3, g1.trans g3, by omega, ?_, ?_⟩
          · rw [hlay, layAny, List.append_assoc]
          · rw [frs] at hn
            omega
        · rintro σ H1 ⟨n1, ms1, pre, v4, rfl, kk, S1, g1, hlen, hlay, hn⟩
          rw [hul, List.drop_length] at hlay hn
          simp only [layAny, List.append_nil, frs, Nat.add_zero] at hlay hn
          refine q ms1 H1 kk ?_ ?_
          · simp only [fr]
            rw [← hn]
            exact S1
          · simp only [lay]
            rw [hlay]
            exact g1
      | many p1 =>
        refine iteF ?_
        refine ⟨v, rfl, rfl, _, hp, _, rfl, rfl, _, rfl, ?_⟩
        refine iteF ?_
        refine ⟨v, rfl, rfl, _, hp, _, rfl, rfl, _, rfl, ?_⟩
        refine iteT ?_
        simp only [pkey, okK, okKs] at okp
        simp only [sz] at hz hl
        have hd2 : (pkey p1).depth ≤ 40 := by
          have : (pkey (.many p1)).depth = max 0 (max ((pkey p1).depth) 0) + 1 := rfl
          omega
        refine ⟨.ref m, rfl, m, dx, _, rfl, e1, mflds_fresh d n, m, d, n, ms, rfl, S, fun H2 k2 S2 => ?_⟩
        have k2 : Kp [m, d] H H2 := k2.mono (by simp)
        have hp2 := hp.mono (k2.tps S.nt)
        obtain ⟨dx2, e2⟩ := S2.ob
        refine ⟨.ref m, rfl, m, _, dx2, _, _, rfl, e2, W.cls 45, W.noat 51, mflds_laid d (n + 1), vn a, rfl, by show 1 ≤ sizeLine; decide, fun y ny => ⟨vn n, rfl, by show 3 ≤ sizeLine; decide, fun z nz => ?_⟩⟩
        have S3 := (S2.keep (Same.new (o := .tup [V.str "stay"]) ny)).keep (Same.new (o := .tup [vn a, .ref y, vn n]) nz)
        have hz3 : Dn (upd (upd H2 y (.tup [V.str "stay"])) z (.tup [vn a, .ref y, vn n])) (.ref z) (mkey (a, .stay, n)) :=
          .tup upd_same (.cons (.num _) (.cons (.tup (by rw [upd_ne (ne_of_none upd_same nz)]; exact upd_same) (.cons (.text _) .nil)) (.cons (.num _) .nil)))
        obtain ⟨xs, D, hlx, S4⟩ := S3.put (X := (cxOf CX0 P w K mg base ["self", "pattern", "one", "other", "part", "middle"] d_Maker_lay.qual d_Maker_lay.scope f cdv A outer s H E).nox) hz3 rfl (by omega)
        refine ⟨d, xs, _, z, rfl, rfl, D, hz3, mkey_depth rfl, rfl, hlx, ?_⟩
        have k4 : Kp [m, d] H _ := ((k2.trans (Kp.new (o := .tup [V.str "stay"]) ny)).trans (Kp.new (o := .tup [vn a, .ref y, vn n]) nz)).trans (Kp.mut (p := d) (o := DN P w d (putN xs (mkey (a, .stay, n)) z (.bl true))) (by simp))
        have g4 := Grew.one ms (a, .stay, n)
        obtain ⟨dx4, e4⟩ := S4.ob
        have l4 := g4.len
        simp only [List.length_singleton] at l4
        refine ⟨.ref m, rfl, m, _, dx4, _, _, rfl, e4, W.cls 45, W.noat 51, mflds_laid d (n + 1), vn n, rfl, by show 1 ≤ sizeLine; decide, fun y' ny' => ⟨vn b, rfl, by show 3 ≤ sizeLine; decide, fun z' nz' => ?_⟩⟩
        have S5 := (S4.keep (Same.new (o := .tup [V.str "stay"]) ny')).keep (Same.new (o := .tup [vn n, .ref y', vn b]) nz')
        have hz5 := dn_stay (a := n) (b := b) nz'
        obtain ⟨xs5, D5, hlx5, S6⟩ := S5.put (X := (cxOf CX0 P w K mg base ["self", "pattern", "one", "other", "part", "middle"] d_Maker_lay.qual d_Maker_lay.scope f cdv A outer s H E).nox) hz5 rfl (by omega)
        refine ⟨d, xs5, _, z', rfl, rfl, D5, hz5, mkey_depth rfl, rfl, hlx5, ?_⟩
        have k6 : Kp [m, d] H _ := ((k4.trans (Kp.new (o := .tup [V.str "stay"]) ny')).trans (Kp.new (o := .tup [vn n, .ref y', vn b]) nz')).trans (Kp.mut (p := d) (o := DN P w d (putN xs5 (mkey (n, .stay, b)) z' (.bl true))) (by simp))
        have g6 := g4.trans (Grew.one (addM ms (a, .stay, n)) (n, .stay, b))
        have l6 := g6.len
        simp only [List.length_append, List.length_singleton] at l6
        obtain ⟨dx6, e6⟩ := S6.ob
        refine ⟨.ref m, rfl, m, dx6, _, rfl, e6, mflds_lay d _, v, rfl, 1, _, _, rfl, hp.mono (k6.tps S.nt), rfl, fun u du => ?_⟩
        refine ⟨vn n, rfl, vn n, rfl, m, d, n + 1, _, u, p1, n, n, rfl, S6, du, by omega, okp.2.1, hd2, by omega, fun ms7 H7 k7 S7 g7 => ?_⟩
        refine q ms7 H7 (k6.trans k7) ?_ ?_
        · simp only [fr]
          rw [show n + (fr p1 + 1) = n + 1 + fr p1 from by omega]
          exact S7
        · simp only [lay]
          exact g6.trans g7
      | _ => exact absurd rfl hf
end
end Pk
namespace Pk
set_option autoImplicit false
set_option maxRecDepth 100000
set_option maxHeartbeats 4000000
open PySem PySem.Spec PyProof.Rows L2
/-- a machine as data -/
def mcKey (n : Nat) (mvs : List Move) : NestedKey := .tup [.num (n : Int), .num ((0 : Nat) : Int), .tup [.num ((1 : Nat) : Int)], .tup (mvs.map mkey)]
/-- the machine of the pattern p stands at v -/
structure Mach (H : Hp) (v : V) (p : Pat) (mvs : List Move) : Prop where
  dn : Dn H v (mcKey (2 + fr p) mvs)
  mem : ∀ mv, mv ∈ mvs ↔ mv ∈ machine p
  len : mvs.length ≤ 3 * sz p
  leaf : ∀ mv ∈ mvs, isLeaf mv.2.1 = true
theorem Mach.mono {H H' : Hp} {v : V} {p : Pat} {mvs : List Move} (M : Mach H v p mvs) (t : Tps H H') : Mach H' v p mvs := ⟨M.dn.mono t, M.mem, M.len, M.leaf⟩
theorem DnAll.of {H : Hp} : ∀ {l : List (V × NestedKey)}, (∀ b ∈ l, Dn H b.1 b.2) → DnAll H (l.map (·.1)) (l.map (·.2))
  | [], _ => .nil
  | b :: l, h => .cons (h b List.mem_cons_self) (DnAll.of fun c m => h c (List.mem_cons_of_mem _ m))
/-- a leaf's key is a row of texts -/
def leafT : Pat → List Str
  | .stay => ["stay"]
  | .step s w => ["step", s, w]
  | .att m => ["at", m]
  | .off m => ["off", m]
  | _ => []
theorem leafT_key {p : Pat} (h : isLeaf p = true) : pkey p = .tup ((leafT p).map .text) := by
  cases p <;> first | rfl | cases h
theorem alike_moves {a b : Move} (ha : isLeaf a.2.1 = true) (hb : isLeaf b.2.1 = true) : PySem.W.alike (mkey a).data (mkey b).data = true := by
  obtain ⟨a1, a2, a3⟩ := a
  obtain ⟨b1, b2, b3⟩ := b
  unfold mkey
  simp only at ha hb ⊢
  rw [leafT_key ha, leafT_key hb]
  show (true && (PySem.W.alikeAll (NestedKey.datas ((leafT a2).map .text)) (NestedKey.datas ((leafT b2).map .text)) && (true && true))) = true
  rw [alike_texts] <;> rfl
theorem sble_moves {bs : List (V × NestedKey)} {ms : List Move} (e : bs.map (·.2) = ms.map mkey) (lf : ∀ mv ∈ ms, isLeaf mv.2.1 = true) (hl : ms.length ≤ 1000) : Sble bs where
  al := by
    intro d hd d' hd'
    have e2 : (bs.map fun b => b.2.data) = ms.map fun mv => (mkey mv).data := by
      have h := congrArg (List.map NestedKey.data) e
      rw [List.map_map, List.map_map] at h
      exact h
    rw [e2] at hd hd'
    obtain ⟨x, mx, rfl⟩ := List.mem_map.mp hd
    obtain ⟨y, my, rfl⟩ := List.mem_map.mp hd'
    exact alike_moves (lf x mx) (lf y my)
  so := .inl fun d hd => by
    have e2 : (bs.map fun b => b.2.data) = ms.map fun mv => (mkey mv).data := by
      have h := congrArg (List.map NestedKey.data) e
      rw [List.map_map, List.map_map] at h
      exact h
    rw [e2] at hd
    obtain ⟨x, mx, rfl⟩ := List.mem_map.mp hd
    exact ⟨_, _, rfl⟩
  len := by
    have := congrArg List.length e
    rw [List.length_map, List.length_map] at this
    omega
  dep := fun b hb => by
    have : b.2 ∈ ms.map mkey := e ▸ List.mem_map_of_mem hb
    obtain ⟨mv, hm, e3⟩ := List.mem_map.mp this
    rw [← e3, depth_key]
    exact mkey_depth (lf mv hm)
section
variable {P : Program} {w : World} {K : PySem.W.Frag} {mg : Str → Option Value} {base : Heap}
theorem lay_all (W : Wd K mg) : ∀ N, Ml P w K mg base (He.ga K "Maker") "lay" ["self", "pattern", "one", "other"] (2 * N + 1) (sqLay P w K N)
  | 0 => lay0 W
  | N + 1 => ok_lay (k := 2 * N) W (lay_all W N) (ok_lay_row W (lay_all W N))
def sqMachineOf : Sq := fun vs H Q => ∃ (v : V) (p : Pat), vs = [v] ∧ Dn H v (pkey p) ∧ sz p ≤ 8 ∧ okK (pkey p) ∧ (pkey p).depth ≤ 40 ∧
  ∀ (a : Addr) (mvs : List Move) (H' : Hp), Same H H' → Mach H' (.ref a) p mvs → Q (.ref a) H'
theorem ok_machine_of (W : Wd K mg) : Cl P w K mg base "machine_of" ["pattern"] 18 sqMachineOf := by
  refine mk_cl W 8 4 (d := d_machine_of) rfl rfl rfl rfl sc_machine_of (fun _ _ _ _ _ _ us hl => match us, hl with | [_], _ => rfl) (fun vs H Q h => ?_) (fun f cdv A outer s H vs Q E hr h => ?_)
  · obtain ⟨v, p, rfl, _⟩ := h
    rfl
  · obtain ⟨v, p, rfl, hp, hz, okp, hd, q⟩ := h
    have hu := hr.units
    have i_Maker : Il P w K mg base "Maker" ["self"] 1 (sqMInit P w K) := ok_Maker_init W
    have m_lay := lay_all (P := P) (w := w) (base := base) W 8
    refine ⟨_, (pss_cons (ps_set (i := 1) sc_machine_of.nd rfl (Or.inl rfl) (pe_mk0 i_Maker (hr.mono (by omega)) (by rfl)))
      (pss_cons (ps_expr (pe_mt (pv 1) (W.cls 45) m_lay (hr.mono (by omega)) (pa_cons (pv 0) (pa_cons pe_int (pa_cons pe_int pa_nil)))))
      (pss_one (ps_ret (pe_tup (pa_cons (pe_fld (pv 1) rfl) (pa_cons pe_int (pa_cons (pe_tup (pa_cons pe_int pa_nil)) (pa_cons (pe_callTy call_tuple_of (by rfl) (W.free 37) (by decide +kernel) (pa_cons (pe_callB (call_sortedN hu rfl) (by rfl) (W.free 33) (by decide +kernel) (pa_cons (pe_fld (pv 1) rfl) pa_nil)) pa_nil)) pa_nil))))))))), ?_⟩
    intro x dx nx ndx nex
    refine ⟨x, dx, rfl, upd_same, fun d H1 nd k1 S1 => ⟨rfl, ?_⟩⟩
    have s0 : Same H (upd (upd H dx (.own x)) x (.ins (He.ga K "Maker") dx [])) := (Same.new ndx).trans (Same.new (by rw [upd_ne nex.symm]; exact nx))
    have nd0 : H d = none := s0.free nd
    have s1 : Same H H1 := Kp.same s0 k1 (by intro b hb; rw [List.mem_singleton.mp hb]; exact nx)
    obtain ⟨dx1, e1⟩ := S1.ob
    refine ⟨.ref x, rfl, x, dx1, _, rfl, e1, mflds_lay d 2, v, rfl, x, d, 2, [], v, p, 0, 1, rfl, S1, hp.mono (Same.tps s1), hz, okp, hd, by simp; omega, fun ms2 H2 k2 S2 g2 => ?_⟩
    have s2 : Same H H2 := Kp.same s1 k2 (by
      intro b hb
      rcases List.mem_cons.mp hb with rfl | hb
      · exact nx
      · rw [List.mem_singleton.mp hb]; exact nd0)
    have hl2 : ms2.length ≤ 3 * sz p := by
      have a := g2.len
      have b := lay_len p 0 1 2
      simp only [List.length_nil] at a
      omega
    obtain ⟨dx2, e2⟩ := S2.ob
    refine ⟨.ref x, rfl, x, _, dx2, _, _, rfl, e2, W.cls 45, W.noat 50, mflds_size d _, by show 1 ≤ sizeLine; decide, fun t nt => ?_⟩
    have S3 := S2.keep (Same.new (o := .tup [.int 1]) nt)
    obtain ⟨dx3, e3⟩ := S3.ob
    obtain ⟨xs, D, hxl, hxk, hxv⟩ := S3.ok (X := (cxOf CX0 P w K mg base ["pattern", "maker"] d_machine_of.qual d_machine_of.scope f cdv A outer s H E).nox) (by omega)
    obtain ⟨bs, ebs⟩ : ∃ bs : List (V × NestedKey), bs = xs.map fun x => (V.ref x.2.1, x.1) := ⟨_, rfl⟩
    have eb2 : bs.map (·.2) = ms2.map mkey := by rw [ebs, List.map_map, ← hxk] <;> rfl
    have hbs : ∀ b ∈ bs, Dn (upd H2 t (.tup [.int 1])) b.1 b.2 := fun b hb => by
      rw [ebs] at hb
      obtain ⟨y, hy, rfl⟩ := List.mem_map.mp hb
      exact (D.keys y hy).1
    have pm : (srt bs).Perm bs := List.mergeSort_perm _ _
    obtain ⟨mvs, pmv, emv⟩ : ∃ mvs : List Move, mvs.Perm ms2 ∧ (srt bs).map (·.2) = mvs.map mkey := by
      have := pm.map (·.2)
      rw [eb2] at this
      exact perm_back this
    refine ⟨.ref x, rfl, x, _, dx3, _, _, rfl, e3, W.cls 45, W.noat 51, mflds_laid d _, d, xs, rfl, D, ebs ▸ hbs, ebs ▸ sble_moves eb2 S2.leaf (by omega), fun l nl => ?_⟩
    rw [← ebs]
    refine ⟨l, _, rfl, .inl ⟨.inl (.inl upd_same), fun r nr => ⟨by show 4 ≤ sizeLine; decide, fun a na => ?_⟩⟩⟩
    have hall : DnAll (upd H2 t (.tup [.int 1])) ((srt bs).map (·.1)) (mvs.map mkey) := by
      rw [← emv]
      exact DnAll.of fun b hb => hbs b (pm.mem_iff.mp hb)
    have st := Same.new (o := .tup [.int 1]) nt
    have sl := Same.new (o := .lst ((srt bs).map (·.1))) nl
    have sr := Same.new (o := .tup ((srt bs).map (·.1))) nr
    have sa := Same.new (o := .tup [vn (2 + fr p), .int 0, .ref t, .ref r]) na
    refine q a mvs _ ((((Same.trans s2 st).trans sl).trans sr).trans sa) ⟨.tup upd_same (.cons (.num _) (.cons (.num _) (.cons (.tup ?_ (.cons (.num _) .nil)) (.cons (.tup (sa _ _ upd_same) ?_) .nil)))), fun mv => ?_, ?_, fun mv hm => ?_⟩
    · exact sa _ _ (sr _ _ (sl _ _ upd_same))
    · exact ((hall.mono (Same.tps sl)).mono (Same.tps sr)).mono (Same.tps sa)
    · rw [pmv.mem_iff, g2.mem]
      simp [machine]
    · rw [pmv.length_eq]
      exact hl2
    · exact S2.leaf mv (pmv.mem_iff.mp hm)
end
end Pk
namespace Pk
set_option autoImplicit false
set_option maxRecDepth 100000
set_option maxHeartbeats 4000000
open PySem PySem.Spec PyProof.Rows L2
theorem sc_holds_at : FnScope ["leaf", "marks"] ["leaf", "marks"] d_holds_at.scope := ⟨rfl, rfl, rfl, by decide +kernel, rfl, by decide +kernel, by decide +kernel⟩
theorem sc_is_step_by : FnScope ["leaf", "side", "word"] ["leaf", "side", "word"] d_is_step_by.scope := ⟨rfl, rfl, rfl, by decide +kernel, rfl, by decide +kernel, by decide +kernel⟩
theorem sc_come_to : FnScope ["machine", "stands", "marks", "met", "stand", "line", "here", "one", "leaf", "other"] ["machine", "stands", "marks"] d_come_to.scope := ⟨rfl, rfl, rfl, by decide +kernel, rfl, by decide +kernel, by decide +kernel⟩
theorem sc_stepped : FnScope ["machine", "stands", "side", "word", "met", "one", "leaf", "other"] ["machine", "stands", "side", "word"] d_stepped.scope := ⟨rfl, rfl, rfl, by decide +kernel, rfl, by decide +kernel, by decide +kernel⟩
theorem sc_has_end : FnScope ["machine", "stands", "stand"] ["machine", "stands"] d_has_end.scope := ⟨rfl, rfl, rfl, by decide +kernel, rfl, by decide +kernel, by decide +kernel⟩
theorem sc_is_among : FnScope ["few", "many", "stand"] ["few", "many"] d_is_among.scope := ⟨rfl, rfl, rfl, by decide +kernel, rfl, by decide +kernel, by decide +kernel⟩
/-- a dict of stands, all True -/
def mtK (ks : List Nat) : List (Key × V) := ks.map fun k : Nat => ((Sum.inl (k : Int) : Key), V.bl true)
theorem valV_mt (ks : List Nat) (k : Nat) : valV (mtK ks) (Sum.inl (k : Int)) = if k ∈ ks then some (.bl true) else none := by
  unfold valV mtK
  induction ks with
  | nil => rfl
  | cons j ks ih =>
    rw [List.map_cons, List.find?_cons]
    by_cases e : j = k
    · subst e
      simp
    · have e2 : decide ((Sum.inl (j : Int) : Key) = Sum.inl (k : Int)) = false := decide_eq_false fun z => e (Int.ofNat.inj (Sum.inl.inj z))
      simp only [e2, ih, List.mem_cons, Ne.symm e, false_or]
theorem put_mt_new {ks : List Nat} {k : Nat} (h : k ∉ ks) : putK (mtK ks) (Sum.inl (k : Int)) (.bl true) = mtK (ks ++ [k]) := by
  rw [putK_new _ (by rw [valV_mt, if_neg h])]
  unfold mtK
  rw [List.map_append] <;> rfl
theorem put_mt_old {ks : List Nat} {k : Nat} (h : k ∈ ks) : putK (mtK ks) (Sum.inl (k : Int)) (.bl true) = mtK ks := by
  unfold putK
  rw [if_pos]
  · unfold mtK
    rw [List.map_map]
    refine List.map_congr_left fun j hj => ?_
    show (if (Sum.inl (j : Int) : Key) = Sum.inl (k : Int) then _ else _) = _
    split <;> rfl
  · rw [List.any_eq_true]
    exact ⟨_, List.mem_map_of_mem (f := fun k : Nat => ((Sum.inl (k : Int) : Key), V.bl true)) h, decide_eq_true rfl⟩
theorem mtK_fst (ks : List Nat) : (mtK ks).map (·.1) = (ks.map fun k : Nat => (k : Int)).map Sum.inl := by
  unfold mtK
  rw [List.map_map, List.map_map] <;> rfl
theorem mtK_keys (ks : List Nat) : ((mtK ks).map fun kv => kV kv.1) = ks.map vn := by
  unfold mtK
  rw [List.map_map] <;> rfl
def rNeNil : R2 := fun x y H Q => ∃ (a b : Addr) (ns : List Nat), x = .ref a ∧ y = .ref b ∧ H a = some (.lst (ns.map vn)) ∧ H b = some (.lst []) ∧ Q (.bl (!ns.isEmpty)) H
theorem shaped_nats : ∀ ns : List Nat, PyData.canLayAll0 (ns.map fun n : Nat => PyData.int (n : Int)) = true ∧ PyData.depthAll (ns.map fun n : Nat => PyData.int (n : Int)) = 0
  | [] => ⟨rfl, rfl⟩
  | n :: ns => by
    obtain ⟨a, b⟩ := shaped_nats ns
    refine ⟨?_, ?_⟩
    · show (true && PyData.canLayAll0 _) = true
      rw [a] <;> rfl
    · show max 0 (PyData.depthAll _) = 0
      rw [b] <;> rfl
theorem dp_nats {K : PySem.W.Frag} {H : Hp} : ∀ ns : List Nat, DpAll K H (ns.map vn) (ns.map fun n : Nat => PyData.int (n : Int))
  | [] => .nil
  | n :: ns => .cons (.int _) (dp_nats ns)
theorem op_neNil {X : Cx} (hu : X.A.units + 64 < cLine) : OpR X (compareOp .NotEq) rNeNil := OpR.imp (op_neD hu) fun x y H Q h => by
  obtain ⟨a, b, ns, rfl, rfl, ha, hb, q⟩ := h
  refine ⟨.list (ns.map fun n : Nat => PyData.int (n : Int)), .list [], .lst (.inl (.inl ha)) (dp_nats ns), .lst (.inl (.inl hb)) .nil, ?_, rfl, ?_⟩
  · unfold SeqAt.shaped
    rw [show PyData.canLay0 (.list (ns.map fun n : Nat => PyData.int (n : Int))) = PyData.canLayAll0 (ns.map fun n : Nat => PyData.int (n : Int)) from rfl, (shaped_nats ns).1, show PyData.depth (.list (ns.map fun n : Nat => PyData.int (n : Int))) = PyData.depthAll (ns.map fun n : Nat => PyData.int (n : Int)) + 1 from rfl, (shaped_nats ns).2]
    decide
  · cases ns <;> exact q
/-- a tuple of stands -/
abbrev tupN (ns : List Nat) : NestedKey := .tup (ns.map fun n : Nat => NestedKey.num (n : Int))
theorem DnAll.vns {H : Hp} : ∀ {ns : List Nat} {vs : List V}, DnAll H vs (ns.map fun n : Nat => NestedKey.num (n : Int)) ↔ vs = ns.map vn
  | [], vs => ⟨fun h => h.nil_inv, fun e => by rw [e]; exact .nil⟩
  | x :: xs, vs => by
    constructor
    · intro h
      obtain ⟨v, us, rfl, a, b⟩ := DnAll.cons_inv h
      rw [a.num_inv, DnAll.vns.mp b] <;> rfl
    · intro e
      rw [e]
      exact .cons (.num _) (DnAll.vns.mpr rfl)
theorem Dn.tupN_inv {H : Hp} {v : V} {ns : List Nat} (h : Dn H v (tupN ns)) : ∃ a, v = .ref a ∧ H a = some (.tup (ns.map vn)) := by
  obtain ⟨a, xs, rfl, e, r⟩ := h.tup_inv
  rw [DnAll.vns.mp r] at e
  exact ⟨a, rfl, e⟩
section
variable {P : Program} {w : World} {K : PySem.W.Frag} {mg : Str → Option Value} {base : Heap}
def sqHoldsAt (K : PySem.W.Frag) : Sq := fun vs H Q => ∃ (v : V) (l : Pat) (a : Addr) (ts : List Str), vs = [v, .ref a] ∧ Dn H v (pkey l) ∧ SqL K H a (ts.map V.str) ∧ Q (.bl (holdsAt l (mkOf ts))) H
theorem ok_holds_at (W : Wd K mg) : Cl P w K mg base "holds_at" ["leaf", "marks"] 1 (sqHoldsAt K) := by
  refine mk_cl W 9 5 (d := d_holds_at) rfl rfl rfl rfl sc_holds_at (fun _ _ _ _ _ _ us hl => match us, hl with | [_, _], _ => rfl) (fun vs H Q h => ?_) (fun f cdv A outer s H vs Q E hr h => ?_)
  · obtain ⟨v, l, a, ts, rfl, _⟩ := h
    rfl
  · obtain ⟨v, l, a, ts, rfl, hl, ht, q⟩ := h
    refine ⟨_, (pss_cons (ps_if (pt_cmpR (op_eqTag .att) (pe_ix ix_tag (pv 0) pe_int (fun _ _ => rfl)) pe_str (nomark _))
        (pss_one (ps_ret (pe_cmpR op_inT (pe_ix ix_key (pv 0) pe_int (fun _ _ => rfl)) (pv 1) (by rfl))))
        pss_nil)
      (pss_cons (ps_if (pt_cmpR (op_eqTag .off) (pe_ix ix_tag (pv 0) pe_int (fun _ _ => rfl)) pe_str (nomark _))
        (pss_one (ps_ret (pe_cmpR op_notInS (pe_ix ix_key (pv 0) pe_int (fun _ _ => rfl)) (pv 1) (by rfl))))
        pss_nil)
      (pss_one (ps_ret (pe_cmpR (op_eqTag .stay) (pe_ix ix_tag (pv 0) pe_int (fun _ _ => rfl)) pe_str (nomark _)))))), ?_⟩
    refine ⟨v, rfl, rfl, l, hl, l, rfl, rfl, _, rfl, ?_⟩
    cases l with
    | att m =>
      refine iteT ?_
      refine ⟨v, rfl, 1, _, _, rfl, hl, rfl, fun u du => ⟨.ref a, rfl, m, a, ts, du.text_inv, rfl, .inl ht, ?_⟩⟩
      exact q
    | off m =>
      refine iteF ?_
      refine ⟨v, rfl, rfl, _, hl, _, rfl, rfl, _, rfl, ?_⟩
      refine iteT ?_
      refine ⟨v, rfl, 1, _, _, rfl, hl, rfl, fun u du => ⟨.ref a, rfl, m, a, ts, du.text_inv, rfl, .inl ht, ?_⟩⟩
      exact q
    | _ =>
      all_goals
        refine iteF ?_
        refine ⟨v, rfl, rfl, _, hl, _, rfl, rfl, _, rfl, ?_⟩
        refine iteF ?_
        exact ⟨v, rfl, rfl, _, hl, _, rfl, rfl, q⟩
def sqIsStepBy : Sq := fun vs H Q => ∃ (v : V) (l : Pat) (sd wd : Str), vs = [v, .str sd, .str wd] ∧ Dn H v (pkey l) ∧ ∀ H', Same H H' → Q (.bl (stepBy l sd wd)) H'
theorem ok_is_step_by (W : Wd K mg) : Cl P w K mg base "is_step_by" ["leaf", "side", "word"] 1 sqIsStepBy := by
  refine mk_cl W 10 6 (d := d_is_step_by) rfl rfl rfl rfl sc_is_step_by (fun _ _ _ _ _ _ us hl => match us, hl with | [_, _, _], _ => rfl) (fun vs H Q h => ?_) (fun f cdv A outer s H vs Q E hr h => ?_)
  · obtain ⟨v, l, sd, wd, rfl, _⟩ := h
    rfl
  · obtain ⟨v, l, sd, wd, rfl, hl, q⟩ := h
    refine ⟨_, (pss_one (ps_ret (pe_and (pe_cmpR (op_eqTag .step) (pe_ix ix_tag (pv 0) pe_int (fun _ _ => rfl)) pe_str (nomark _)) (pe_and (pe_cmpR op_eqT (pe_ix ix_key (pv 0) pe_int (fun _ _ => rfl)) (pv 1) (nomark _)) (pe_one (pe_cmpR op_inT (pe_ix ix_key (pv 0) pe_int (fun _ _ => rfl)) (pe_tup (pa_cons pe_str (pa_cons (pv 2) pa_nil))) (by rfl))))))), ?_⟩
    refine ⟨v, rfl, rfl, l, hl, l, rfl, rfl, _, rfl, ?_⟩
    cases l with
    | step s' w' =>
      refine iteT ?_
      refine ⟨v, rfl, 1, _, _, rfl, hl, rfl, fun u du => ⟨.str sd, rfl, s', sd, du.text_inv, rfl, _, rfl, ?_⟩⟩
      refine ite2 (fun e => ?_) (fun e => ?_)
      · refine ⟨v, rfl, 2, _, _, rfl, hl, rfl, fun u2 du2 => ⟨.str wd, rfl, by show 2 ≤ sizeLine; decide, fun t nt => ⟨w', t, [star, wd], du2.text_inv, rfl, .inr (.inl (.inl upd_same)), ?_⟩⟩⟩
        have e2 : decide (w' ∈ [star, wd]) = stepBy (.step s' w') sd wd := by
          show _ = (decide (s' = sd) && (decide (w' = star) || decide (w' = wd)))
          rw [e, Bool.true_and, Bool.eq_iff_iff]
          simp
        rw [e2]
        exact q _ (Same.new nt)
      · have e2 : stepBy (.step s' w') sd wd = false := by
          show (decide (s' = sd) && (decide (w' = star) || decide (w' = wd))) = false
          rw [Bool.eq_false_iff.mpr e, Bool.false_and]
        have q2 := q H (Same.refl H)
        rw [e2] at q2
        exact q2
    | _ =>
      all_goals
        refine iteF ?_
        exact q H (Same.refl H)
end
end Pk
namespace Pk
set_option autoImplicit false
set_option maxRecDepth 100000
set_option maxHeartbeats 4000000
open PySem PySem.Spec PyProof.Rows L2
theorem mkey_inv {H : Hp} {x : V} {a : Nat} {l : Pat} {o : Nat} (h : Dn H x (mkey (a, l, o))) : ∃ xa lv, x = .ref xa ∧ H xa = some (.tup [vn a, lv, vn o]) ∧ Dn H lv (pkey l) := by
  obtain ⟨xa, xs, rfl, e, r⟩ := h.tup_inv
  obtain ⟨v1, r1, rfl, d1, r⟩ := r.cons_inv
  obtain ⟨v2, r2, rfl, d2, r⟩ := r.cons_inv
  obtain ⟨v3, r3, rfl, d3, r⟩ := r.cons_inv
  rw [r.nil_inv, d1.num_inv, d3.num_inv] at e
  exact ⟨xa, v2, rfl, e, d2⟩
theorem DnAll.atM {H : Hp} {vs : List V} {qs : List Move} {i : Nat} {x : V} (d : DnAll H vs (qs.map mkey)) (h : vs[i]? = some x) : ∃ q, qs[i]? = some q ∧ Dn H x (mkey q) := by
  obtain ⟨k, e, dk⟩ := d.getV h
  rw [List.getElem?_map] at e
  cases e2 : qs[i]? with
  | none => rw [e2] at e; cases e
  | some q =>
    rw [e2] at e
    cases e
    exact ⟨q, rfl, dk⟩
section
variable {P : Program} {w : World} {K : PySem.W.Frag} {mg : Str → Option Value} {base : Heap}
def sqComeTo (K : PySem.W.Frag) : Sq := fun vs H Q => ∃ (mv sv : V) (am : Addr) (p : Pat) (mvs : List Move) (S : List Nat) (ts : List Str), vs = [mv, sv, .ref am] ∧ Mach H mv p mvs ∧ Dn H sv (tupN S) ∧ (∀ q ∈ S, q < 2 + fr p) ∧ sz p ≤ 8 ∧ SqL K H am (ts.map V.str) ∧
  ∀ (r : V) (ns : List Nat) (H' : Hp), Same H H' → Dn H' r (tupN ns) → ns.Pairwise (· < ·) → (∀ q ∈ ns, q < 2 + fr p) → (∀ q, q ∈ ns ↔ Come (machine p) (mkOf ts) (fun q => q ∈ S) q) → Q r H'
theorem ok_come_to (W : Wd K mg) : Cl P w K mg base "come_to" ["machine", "stands", "marks"] 2 (sqComeTo K) := by
  refine mk_cl W 11 7 (d := d_come_to) rfl rfl rfl rfl sc_come_to (fun _ _ _ _ _ _ us hl => match us, hl with | [_, _, _], _ => rfl) (fun vs H Q h => ?_) (fun f cdv A outer s H vs Q E hr h => ?_)
  · obtain ⟨mv, sv, am, p, mvs, S, ts, rfl, _⟩ := h
    rfl
  · obtain ⟨mv, sv, am, p, mvs, S, ts, rfl, M, ds, hS, hz, ht, q⟩ := h
    have hu := hr.units
    have hu1 := hu_of hr
    have c_holds_at : Cl P w K mg base "holds_at" ["leaf", "marks"] 1 (sqHoldsAt K) := ok_holds_at W
    obtain ⟨sa, rfl, es⟩ := ds.tupN_inv
    obtain ⟨B, eB⟩ : ∃ B, B = 2 + fr p := ⟨_, rfl⟩
    rw [← eB] at hS q
    have hB : B ≤ 9 := by have := fr_sz p; omega
    have hbd : ∀ mv ∈ machine p, mv.2.2 < B := fun mv hm => by
      have := (layB p 0 1 2 (by omega) (by omega) mv hm).2
      omega
    refine ⟨_, (pss_cons (ps_set (i := 3) sc_come_to.nd rfl (Or.inl rfl) pe_dnewK)
      (pss_cons (ps_for PassesOwn.never rfl (pi_tup (pv 1)) (pg_name (i := 4) sc_come_to.nd rfl (Or.inl rfl))
        (pss_one (ps_dput hu1 (pv 3) (pv 4) pe_bl rfl)))
      (pss_cons (ps_set (i := 5) sc_come_to.nd rfl (Or.inl rfl) (pe_callTy (call_listD rfl) (by rfl) (W.free 36) (by decide +kernel) (pa_cons (pv 3) pa_nil)))
      (pss_cons (ps_while PassesOwn.never (pt_cmpR (op_neNil hu) (pv 5) (pe_lst pa_nil) (nomark _))
        (pss_cons (ps_set (i := 6) sc_come_to.nd rfl (Or.inl rfl) (pe_bm0 PySem.F.plainAttrs_list PySem.F.slot_list_pop PySem.F.type_list_pop mt_pop (pv 5)))
        (pss_one (ps_for PassesOwn.never rfl (pi_tup (pe_ix ix_key (pv 0) pe_int (fun _ _ => rfl))) (pg_tup rfl (pgs_cons (pg_name (i := 7) sc_come_to.nd rfl (Or.inl rfl)) (pgs_cons (pg_name (i := 8) sc_come_to.nd rfl (Or.inl rfl)) (pgs_cons (pg_name (i := 9) sc_come_to.nd rfl (Or.inl rfl)) pgs_nil))))
          (pss_one (ps_if (PW.pt (pw_and (pt_cmpR op_eqN (pv 7) (pv 6) (nomark _)) (pw_and (pt_cmp ((pc_dnotin hu1) (pv 9) (pv 3))) (pw_and1 (pt_val (pe_fn c_holds_at (hr.mono (by omega)) (by rfl) (pa_cons (pv 8) (pa_cons (pv 2) pa_nil))))))))
            (pss_cons (ps_dput hu1 (pv 3) (pv 9) pe_bl rfl)
            (pss_one (ps_expr (pe_bm PySem.F.plainAttrs_list PySem.F.slot_list_append PySem.F.type_list_append mt_append (pv 5) (pa_cons (pv 9) pa_nil)))))
            pss_nil))))))
      (pss_one (ps_ret (pe_callTy call_tuple_of (by rfl) (W.free 37) (by decide +kernel) (pa_cons (pe_callB (call_sortedDI rfl) (by rfl) (W.free 33) (by decide +kernel) (pa_cons (pv 3) pa_nil)) pa_nil)))))))), ?_⟩
    intro d nd
    have s1 : Same H (upd H d (.dK [])) := Same.new nd
    refine ⟨.ref sa, rfl, sa, rfl, ⟨S.map vn, .inl (.inl (s1 _ _ es))⟩, for_tup (K := K) (a := sa) (xs := S.map vn) (fun i σ H' => ∃ (v4 : Option V) (ks : List Nat), σ = [some mv, some (.ref sa), some (.ref am), some (.ref d), v4, none, none, none, none, none] ∧ Same H H' ∧ H' d = some (.dK (mtK ks)) ∧
      ks.Nodup ∧ (∀ k ∈ ks, k ∈ S) ∧ ∀ j, j < i → ∀ x, S[j]? = some x → x ∈ ks) ?_ ?_ ?_ ?_⟩
    · exact ⟨none, [], rfl, s1, upd_same, List.nodup_nil, fun k hk => (by cases hk), fun j hj => absurd hj (Nat.not_lt_zero _)⟩
    · rintro i σ H1 hi ⟨v4, ks, rfl, sx, hd, _⟩
      exact .inl (.inl (sx _ _ es))
    · rintro i x σ H1 hi ⟨v4, ks, rfl, sx, hd, hn, hk, hj⟩
      rw [List.getElem?_map] at hi
      cases ez : S[i]? with
      | none => rw [ez] at hi; cases hi
      | some z =>
        rw [ez] at hi
        cases hi
        have hzS := List.mem_of_getElem? ez
        have hlen : (mtK ks).length < sizeLine := by
          rw [show (mtK ks).length = ks.length from by unfold mtK; rw [List.length_map]]
          exact small_lt (m := 100) (by have := lt_len hn fun k h => hS k (hk k h); omega) (by decide)
        refine ⟨.ref d, rfl, vn z, rfl, d, _, rfl, DPut.k (k := Sum.inl (z : Int)) hd hlen, ?_⟩
        have sx2 : ∀ o, Same H (upd H1 d o) := fun o => But.same nd sx But.upd
        by_cases hin : z ∈ ks
        · rw [put_mt_old hin]
          refine ⟨_, ks, rfl, sx2 _, upd_same, hn, hk, fun j hj' y ey => ?_⟩
          by_cases h : j < i
          · exact hj j h y ey
          · have : j = i := by omega
            subst this
            rw [ez] at ey
            cases ey
            exact hin
        · rw [put_mt_new hin]
          refine ⟨_, ks ++ [z], rfl, sx2 _, upd_same, ?_, ?_, fun j hj' y ey => ?_⟩
          · exact List.nodup_append.mpr ⟨hn, by simp, fun a ha b hb e => hin (by rw [List.mem_singleton.mp hb] at e; exact e ▸ ha)⟩
          · intro k h
            rcases List.mem_append.mp h with h | h
            · exact hk k h
            · rw [List.mem_singleton.mp h]; exact hzS
          · by_cases h : j < i
            · exact List.mem_append_left _ (hj j h y ey)
            · have : j = i := by omega
              subst this
              rw [ez] at ey
              cases ey
              simp
    · rintro σ H1 ⟨v4, ks, rfl, sx, hd, hn, hk, hj⟩
      refine ⟨.ref d, rfl, d, mtK ks, rfl, .inl hd, fun l nl => ?_⟩
      rw [mtK_keys]
      have ndl : d ≠ l := ne_of_none hd nl
      have nl0 : H l = none := sx.free nl
      obtain ⟨I, hI⟩ : ∃ I : Nat → L2.St → Hp → Prop, I = fun m σ H' => ∃ (ks ns : List Nat) (v6 v7 v8 v9 : Option V), σ = [some mv, some (.ref sa), some (.ref am), some (.ref d), v4, some (.ref l), v6, v7, v8, v9] ∧ Same H H' ∧ H' d = some (.dK (mtK ks)) ∧ H' l = some (.lst (ns.map vn)) ∧
        CI (machine p) (mkOf ts) S B ks ns ∧ m ≤ 27 ∧ m = 2 * (B - ks.length) + ns.length := ⟨_, rfl⟩
      refine ⟨I, ⟨2 * (B - ks.length) + ks.length, ?_⟩, ?_⟩
      · rw [hI]
        refine ⟨ks, ks, none, none, none, none, rfl, Same.trans sx (Same.new nl), by rw [upd_ne ndl]; exact hd, upd_same, ⟨hn, fun k h => hS k (hk k h), fun k h => h, fun k h => ⟨k, hk k h, .refl _⟩, fun x hx => ?_, fun k h hn => absurd h hn⟩, by have := lt_len hn fun k h => hS k (hk k h); omega, rfl⟩
        obtain ⟨j, hj', e⟩ := List.getElem_of_mem hx
        have hjl : j < (S.map vn).length := by rw [List.length_map]; exact hj'
        exact hj j hjl x (by rw [List.getElem?_eq_getElem hj', e])
      · clear hn hk hj hd sx
        intro m σ H2 h
        rw [hI] at h
        obtain ⟨ks, ns, v6, v7, v8, v9, rfl, sx, hd, hl, C, hm27, rfl⟩ := h
        refine ⟨.ref l, rfl, Nat.zero_le _, fun e ne => ?_⟩
        have se := Same.new (o := .lst []) ne
        have hd := se _ _ hd
        have hl := se _ _ hl
        have sx := Same.trans sx se
        refine ⟨l, e, ns, rfl, rfl, hl, upd_same, _, rfl, ?_⟩
        cases hns : ns.isEmpty with
        | false =>
          refine iteT ?_
          obtain ⟨ns', h, rfl⟩ : ∃ ns' h, ns = ns' ++ [h] := by
            have : ns ≠ [] := by intro z; rw [z] at hns; cases hns
            exact ⟨ns.dropLast, ns.getLast this, (List.dropLast_concat_getLast this).symm⟩
          refine ⟨fun σ' H' => ∃ m', m' < 2 * (B - ks.length) + (ns' ++ [h]).length ∧ I m' σ' H', fun σ' H' h => h, ?_⟩
          refine ⟨.ref l, rfl, .inl ⟨rfl, _, .inl (.inl hl)⟩, l, _, vn h, rfl, rfl, hl, ?_, ?_⟩
          · rw [List.map_append, List.length_append]
            simp
          have hdl : ((ns' ++ [h]).map vn).dropLast = ns'.map vn := by
            rw [List.map_append]
            simp
          rw [hdl]
          have sl : ∀ o, Same H (upd (upd H2 e (.lst [])) l o) := fun o => But.same nl0 sx But.upd
          have hd3 : (upd (upd H2 e (.lst [])) l (.lst (ns'.map vn))) d = some (.dK (mtK ks)) := by rw [upd_ne ndl]; exact hd
          have CJ0 : CJ (machine p) mvs (mkOf ts) S B h 0 ks ns' := C.pop
          have M3 := M.mono (Same.tps (sl (.lst (ns'.map vn))))
          refine ⟨mv, rfl, 3, _, _, rfl, M3.dn, rfl, fun u du => ?_⟩
          obtain ⟨t4, us, rfl, et, dus⟩ := du.tup_inv
          have hul : us.length = mvs.length := by rw [dus.length, List.length_map]
          refine ⟨t4, rfl, ⟨us, .inl (.inl et)⟩, for_tup (K := K) (a := t4) (xs := us) (fun i σ H' => ∃ (ks1 ns1 : List Nat) (v7 v8 v9 : Option V), σ = [some mv, some (.ref sa), some (.ref am), some (.ref d), v4, some (.ref l), some (vn h), v7, v8, v9] ∧ Same H H' ∧ H' t4 = some (.tup us) ∧ DnAll H' us (mvs.map mkey) ∧
            H' d = some (.dK (mtK ks1)) ∧ H' l = some (.lst (ns1.map vn)) ∧ CJ (machine p) mvs (mkOf ts) S B h i ks1 ns1 ∧ 2 * (B - ks1.length) + ns1.length < 2 * (B - ks.length) + (ns' ++ [h]).length) ?_ ?_ ?_ ?_⟩
          · exact ⟨ks, ns', v7, v8, v9, rfl, sl _, et, dus, hd3, upd_same, CJ0, by rw [List.length_append, List.length_singleton]; omega⟩
          · rintro i σ H4 hi ⟨ks1, ns1, v7, v8, v9, rfl, sx4, et4, _⟩
            exact .inl (.inl et4)
          · rintro i x σ H4 hi ⟨ks1, ns1, v7, v8, v9, rfl, sx4, et4, du4, hd4, hl4, J, hm⟩
            obtain ⟨⟨a, lf, o⟩, em, dm⟩ := du4.atM hi
            obtain ⟨xa, lv, rfl, ex, dl⟩ := mkey_inv dm
            have hk1 : ks1.length ≤ B := lt_len J.nd J.bd
            refine ⟨xa, _, rfl, .inl (.inl ex), rfl, vn a, _, rfl, lv, _, rfl, vn o, [], rfl, rfl, ?_⟩
            refine ⟨vn a, rfl, vn h, rfl, a, h, rfl, rfl, _, rfl, ?_⟩
            have fin : ∀ (v7 v8 v9 : Option V), (((a : Int) = (h : Int)) → o ∉ ks1 → holdsAt lf (mkOf ts) = true → False) → ∃ (ks1 ns1 : List Nat) (v7' v8' v9' : Option V), [some mv, some (.ref sa), some (.ref am), some (.ref d), v4, some (.ref l), some (vn h), v7, v8, v9] = [some mv, some (.ref sa), some (.ref am), some (.ref d), v4, some (.ref l), some (vn h), v7', v8', v9'] ∧ Same H H4 ∧ H4 t4 = some (.tup us) ∧ DnAll H4 us (mvs.map mkey) ∧
              H4 d = some (.dK (mtK ks1)) ∧ H4 l = some (.lst (ns1.map vn)) ∧ CJ (machine p) mvs (mkOf ts) S B h (i + 1) ks1 ns1 ∧ 2 * (B - ks1.length) + ns1.length < 2 * (B - ks.length) + (ns' ++ [h]).length := fun v7 v8 v9 no =>
              ⟨ks1, ns1, v7, v8, v9, rfl, sx4, et4, du4, hd4, hl4, J.skip em fun e => no (by rw [e]), hm⟩
            refine ite2 (fun e1 => ?_) (fun e1 => iteF (fin _ _ _ fun e => absurd (decide_eq_true e) e1))
            refine ⟨vn o, rfl, .ref d, rfl, d, _, rfl, DGet.k (k := Sum.inl (o : Int)) hd4, _, rfl, ?_⟩
            rw [valV_mt]
            by_cases ho : o ∈ ks1
            · rw [if_pos ho]
              refine iteF (iteF (fin _ _ _ fun _ z => absurd ho z))
            · rw [if_neg ho]
              refine iteT ?_
              refine ⟨lv, rfl, .ref am, rfl, lv, lf, am, ts, rfl, dl, Same.seq sx4 ht, _, rfl, ?_⟩
              refine ite2 (fun e3 => ?_) (fun e3 => fin _ _ _ fun _ _ z => absurd z e3)
              have eah : a = h := by
                have := of_decide_eq_true e1
                omega
              subst eah
              have nt4d : t4 ≠ d := ne_of et4 hd4 (by intro z; cases z)
              have nt4l : t4 ≠ l := ne_of et4 hl4 (by intro z; cases z)
              have hlen : (mtK ks1).length < sizeLine := by
                rw [show (mtK ks1).length = ks1.length from by unfold mtK; rw [List.length_map]]
                exact small_lt (m := 100) (by omega) (by decide)
              refine ⟨.ref d, rfl, vn o, rfl, d, _, rfl, DPut.k (k := Sum.inl (o : Int)) hd4 hlen, ?_⟩
              rw [put_mt_new ho]
              have hl5 : (upd H4 d (.dK (mtK (ks1 ++ [o])))) l = some (.lst (ns1.map vn)) := by rw [upd_ne ndl.symm]; exact hl4
              refine ⟨.ref l, rfl, .inl ⟨rfl, _, .inl (.inl hl5)⟩, vn o, rfl, l, _, _, rfl, rfl, hl5, ?_, ?_⟩
              · rw [List.length_map]
                exact small_lt (m := 100) (by omega) (by decide)
              · have t5 : Tps H4 (upd H4 d (.dK (mtK (ks1 ++ [o])))) := Tps.mut hd4 (by intro xs z; cases z)
                have t6 : Tps (upd H4 d (.dK (mtK (ks1 ++ [o])))) (upd (upd H4 d (.dK (mtK (ks1 ++ [o])))) l (.lst (ns1.map vn ++ [vn o]))) := Tps.mut hl5 (by intro xs z; cases z)
                have J2 := J.add (fun mv h => (M.mem mv).mp h) hbd em ho e3
                have hk2 : (ks1 ++ [o]).length ≤ B := lt_len J2.nd J2.bd
                refine ⟨ks1 ++ [o], ns1 ++ [o], _, _, _, rfl, ?_, ?_, (du4.mono t5).mono t6, ?_, ?_, J2, ?_⟩
                · exact But.same nl0 (But.same nd sx4 But.upd) But.upd
                · rw [upd_ne nt4l, upd_ne nt4d]; exact et4
                · rw [upd_ne ndl]; exact upd_same
                · rw [upd_same, List.map_append] <;> rfl
                · simp only [List.length_append, List.length_singleton] at hk2 hm ⊢
                  omega
          · rintro σ H4 ⟨ks1, ns1, v7, v8, v9, rfl, sx4, et4, du4, hd4, hl4, J, hm⟩
            refine ⟨2 * (B - ks1.length) + ns1.length, hm, ?_⟩
            rw [hI]
            rw [hul] at J
            exact ⟨ks1, ns1, _, _, _, _, rfl, sx4, hd4, hl4, J.done fun mv h => (M.mem mv).mpr h, by omega, rfl⟩
        | true =>
          refine iteF ?_
          have hn0 : ns = [] := List.isEmpty_iff.mp hns
          subst hn0
          have hlen : ks.length ≤ B := lt_len C.nd C.bd
          refine ⟨.ref d, rfl, d, mtK ks, ks.map fun k : Nat => (k : Int), rfl, .inl hd, mtK_fst ks, by rw [List.length_map]; omega, fun ys r perm pw nr => ?_⟩
          obtain ⟨ns, rfl, inc, mem⟩ := sorted_nats perm pw C.nd
          have e0 : ((ns.map fun k : Nat => (k : Int)).map V.int) = ns.map vn := by rw [List.map_map] <;> rfl
          rw [e0]
          refine ⟨r, _, rfl, .inl ⟨.inl (.inl upd_same), fun z nz => ?_⟩⟩
          refine q (.ref z) ns _ ((Same.trans sx (Same.new nr)).trans (Same.new nz)) (.tup upd_same (DnAll.vns.mpr rfl)) inc (fun x hx => C.bd x ((mem x).mp hx)) fun x => (mem x).trans (C.all x)
end
end Pk
namespace Pk
set_option autoImplicit false
set_option maxRecDepth 100000
set_option maxHeartbeats 4000000
open PySem PySem.Spec PyProof.Rows L2
theorem lc_yes {te : TE} {σ σ' : L2.St} {H : Hp} {K2 : VK} {K3 : Hp → Prop} (h : te σ H K2) : tYes σ' H (fun b H3 => if b = true then te σ H3 K2 else K3 H3) := by
  show (if true = true then te σ H K2 else K3 H)
  exact iteT h
section
variable {P : Program} {w : World} {K : PySem.W.Frag} {mg : Str → Option Value} {base : Heap}
def sqStepped : Sq := fun vs H Q => ∃ (mv sv : V) (p : Pat) (mvs : List Move) (S : List Nat) (sd wd : Str), vs = [mv, sv, .str sd, .str wd] ∧ Mach H mv p mvs ∧ Dn H sv (tupN S) ∧ sz p ≤ 8 ∧
  ∀ (r : V) (ns : List Nat) (H' : Hp), Same H H' → Dn H' r (tupN ns) → ns.Pairwise (· < ·) → (∀ q ∈ ns, q < 2 + fr p) → (∀ q, q ∈ ns ↔ Stp (machine p) (fun q => q ∈ S) sd wd q) → Q r H'
theorem ok_stepped (W : Wd K mg) : Cl P w K mg base "stepped" ["machine", "stands", "side", "word"] 2 sqStepped := by
  refine mk_cl W 12 8 (d := d_stepped) rfl rfl rfl rfl sc_stepped (fun _ _ _ _ _ _ us hl => match us, hl with | [_, _, _, _], _ => rfl) (fun vs H Q h => ?_) (fun f cdv A outer s H vs Q E hr h => ?_)
  · obtain ⟨mv, sv, p, mvs, S, sd, wd, rfl, _⟩ := h
    rfl
  · obtain ⟨mv, sv, p, mvs, S, sd, wd, rfl, M, ds, hz, q⟩ := h
    have hu := hr.units
    have hu1 := hu_of hr
    have c_is_step_by : Cl P w K mg base "is_step_by" ["leaf", "side", "word"] 1 sqIsStepBy := ok_is_step_by W
    obtain ⟨sa, rfl, es⟩ := ds.tupN_inv
    obtain ⟨B, eB⟩ : ∃ B, B = 2 + fr p := ⟨_, rfl⟩
    rw [← eB] at q
    have hB : B ≤ 9 := by have := fr_sz p; omega
    have hbd : ∀ mv ∈ machine p, mv.2.2 < B := fun mv hm => by
      have := (layB p 0 1 2 (by omega) (by omega) mv hm).2
      omega
    refine ⟨_, (pss_cons (ps_set (i := 4) sc_stepped.nd rfl (Or.inl rfl) pe_dnewK)
      (pss_cons (ps_for PassesOwn.never rfl (pi_tup (pe_ix ix_key (pv 0) pe_int (fun _ _ => rfl))) (pg_tup rfl (pgs_cons (pg_name (i := 5) sc_stepped.nd rfl (Or.inl rfl)) (pgs_cons (pg_name (i := 6) sc_stepped.nd rfl (Or.inl rfl)) (pgs_cons (pg_name (i := 7) sc_stepped.nd rfl (Or.inl rfl)) pgs_nil))))
        (pss_one (ps_if (PW.pt (pw_and (pt_cmpR op_inN (pv 5) (pv 1) (by rfl)) (pw_and1 (pt_val (pe_fn c_is_step_by (hr.mono (by omega)) (by rfl) (pa_cons (pv 6) (pa_cons (pv 2) (pa_cons (pv 3) pa_nil))))))))
          (pss_one (ps_dput hu1 (pv 4) (pv 7) pe_bl rfl))
          pss_nil)))
      (pss_one (ps_ret (pe_callTy call_tuple_of (by rfl) (W.free 37) (by decide +kernel) (pa_cons (pe_callB (call_sortedDI rfl) (by rfl) (W.free 33) (by decide +kernel) (pa_cons (pv 4) pa_nil)) pa_nil)))))), ?_⟩
    intro d nd
    have s1 : Same H (upd H d (.dK [])) := Same.new nd
    have M1 := M.mono (Same.tps s1)
    refine ⟨mv, rfl, 3, _, _, rfl, M1.dn, rfl, fun u du => ?_⟩
    obtain ⟨t4, us, rfl, et, dus⟩ := du.tup_inv
    have hul : us.length = mvs.length := by rw [dus.length, List.length_map]
    refine ⟨t4, rfl, ⟨us, .inl (.inl et)⟩, for_tup (K := K) (a := t4) (xs := us) (fun i σ H' => ∃ (ks : List Nat) (v5 v6 v7 : Option V), σ = [some mv, some (.ref sa), some (.str sd), some (.str wd), some (.ref d), v5, v6, v7] ∧ Same H H' ∧ H' t4 = some (.tup us) ∧ DnAll H' us (mvs.map mkey) ∧
      H' d = some (.dK (mtK ks)) ∧ ks.Nodup ∧ (∀ k ∈ ks, Stp (machine p) (fun q => q ∈ S) sd wd k) ∧ ∀ j, j < i → ∀ a l o, mvs[j]? = some (a, l, o) → a ∈ S → stepBy l sd wd = true → o ∈ ks) ?_ ?_ ?_ ?_⟩
    · exact ⟨[], none, none, none, rfl, s1, et, dus, upd_same, List.nodup_nil, fun k hk => (by cases hk), fun j hj => absurd hj (Nat.not_lt_zero _)⟩
    · rintro i σ H4 hi ⟨ks1, v7, v8, v9, rfl, sx4, et4, _⟩
      exact .inl (.inl et4)
    · rintro i x σ H4 hi ⟨ks, v7, v8, v9, rfl, sx4, et4, du4, hd4, nk, hk, hj⟩
      obtain ⟨⟨a, lf, o⟩, em, dm⟩ := du4.atM hi
      obtain ⟨xa, lv, rfl, ex, dl⟩ := mkey_inv dm
      have nxt : ∀ (v7 v8 v9 : Option V) (H5 : Hp), Same H4 H5 → (a ∈ S → stepBy lf sd wd = true → o ∈ ks) → ∃ (ks : List Nat) (v5 v6 v7' : Option V), [some mv, some (.ref sa), some (.str sd), some (.str wd), some (.ref d), v7, v8, v9] = [some mv, some (.ref sa), some (.str sd), some (.str wd), some (.ref d), v5, v6, v7'] ∧ Same H H5 ∧ H5 t4 = some (.tup us) ∧ DnAll H5 us (mvs.map mkey) ∧
          H5 d = some (.dK (mtK ks)) ∧ ks.Nodup ∧ (∀ k ∈ ks, Stp (machine p) (fun q => q ∈ S) sd wd k) ∧ ∀ j, j < i + 1 → ∀ a l o, mvs[j]? = some (a, l, o) → a ∈ S → stepBy l sd wd = true → o ∈ ks := fun v7 v8 v9 H5 s5 no =>
        ⟨ks, v7, v8, v9, rfl, Same.trans sx4 s5, s5 _ _ et4, du4.mono (Same.tps s5), s5 _ _ hd4, nk, hk, fun j hj' a' l' o' e' h1 h2 => by
          by_cases h : j < i
          · exact hj j h a' l' o' e' h1 h2
          · have : j = i := by omega
            subst this
            rw [em] at e'
            cases e'
            exact no h1 h2⟩
      refine ⟨xa, _, rfl, .inl (.inl ex), rfl, vn a, _, rfl, lv, _, rfl, vn o, [], rfl, rfl, ?_⟩
      refine ⟨vn a, rfl, .ref sa, rfl, a, sa, S, rfl, rfl, .inr (.inl (.inl (sx4 _ _ es))), _, rfl, ?_⟩
      refine ite2 (fun e1 => ?_) (fun e1 => iteF (nxt _ _ _ H4 (Same.refl _) fun e => absurd (decide_eq_true e) e1))
      have e1 : a ∈ S := of_decide_eq_true e1
      refine ⟨lv, rfl, .str sd, rfl, .str wd, rfl, lv, lf, sd, wd, rfl, dl, fun H5 s5 => ⟨_, rfl, ?_⟩⟩
      refine ite2 (fun e2 => ?_) (fun e2 => nxt _ _ _ H5 s5 fun _ z => absurd z e2)
      have hd5 := s5 _ _ hd4
      have sx5 := Same.trans sx4 s5
      have hlen : (mtK ks).length < sizeLine := by
        rw [show (mtK ks).length = ks.length from by unfold mtK; rw [List.length_map]]
        refine small_lt (m := 100) ?_ (by decide)
        have := lt_len (B := B) nk fun k h => by
          obtain ⟨_, _, _, hm, _⟩ := hk k h
          exact hbd _ hm
        omega
      have nt4d : t4 ≠ d := ne_of et4 hd4 (by intro z; cases z)
      refine ⟨.ref d, rfl, vn o, rfl, d, _, rfl, DPut.k (k := Sum.inl (o : Int)) hd5 hlen, ?_⟩
      have stp : Stp (machine p) (fun q => q ∈ S) sd wd o := ⟨a, lf, e1, (M.mem _).mp (List.mem_of_getElem? em), e2⟩
      have sx6 : ∀ ob, Same H (upd H5 d ob) := fun ob => But.same nd sx5 But.upd
      have t5 : ∀ ob, Tps H5 (upd H5 d ob) := fun ob => Tps.mut hd5 (by intro xs z; cases z)
      have ex5 : ∀ ob, (upd H5 d ob) t4 = some (.tup us) := fun ob => by rw [upd_ne nt4d]; exact s5 _ _ et4
      have up : ∀ ks' : List Nat, o ∈ ks' → (∀ k ∈ ks, k ∈ ks') → ∀ j, j < i + 1 → ∀ a l o, mvs[j]? = some (a, l, o) → a ∈ S → stepBy l sd wd = true → o ∈ ks' := fun ks' ho hs j hj' a' l' o' e' h1 h2 => by
        by_cases h : j < i
        · exact hs _ (hj j h a' l' o' e' h1 h2)
        · have : j = i := by omega
          subst this
          rw [em] at e'
          cases e'
          exact ho
      by_cases ho : o ∈ ks
      · rw [put_mt_old ho]
        exact ⟨ks, _, _, _, rfl, sx6 _, ex5 _, (du4.mono (Same.tps s5)).mono (t5 _), upd_same, nk, hk, up ks ho fun k h => h⟩
      · rw [put_mt_new ho]
        refine ⟨ks ++ [o], _, _, _, rfl, sx6 _, ex5 _, (du4.mono (Same.tps s5)).mono (t5 _), upd_same, ?_, ?_, up _ (by simp) fun k h => List.mem_append_left _ h⟩
        · exact List.nodup_append.mpr ⟨nk, by simp, fun a ha b hb e => ho (by rw [List.mem_singleton.mp hb] at e; exact e ▸ ha)⟩
        · intro k h
          rcases List.mem_append.mp h with h | h
          · exact hk k h
          · rw [List.mem_singleton.mp h]; exact stp
    · rintro σ H4 ⟨ks, v7, v8, v9, rfl, sx4, et4, du4, hd4, nk, hk, hj⟩
      have hbk : ∀ k ∈ ks, k < B := fun k h => by
        obtain ⟨_, _, _, hm, _⟩ := hk k h
        exact hbd _ hm
      have hlen := lt_len nk hbk
      refine ⟨.ref d, rfl, d, mtK ks, ks.map fun k : Nat => (k : Int), rfl, .inl hd4, mtK_fst ks, by rw [List.length_map]; omega, fun ys r perm pw nr => ?_⟩
      obtain ⟨ns, rfl, inc, mem⟩ := sorted_nats perm pw nk
      have e0 : ((ns.map fun k : Nat => (k : Int)).map V.int) = ns.map vn := by rw [List.map_map] <;> rfl
      rw [e0]
      refine ⟨r, _, rfl, .inl ⟨.inl (.inl upd_same), fun z nz => ?_⟩⟩
      refine q (.ref z) ns _ ((Same.trans sx4 (Same.new nr)).trans (Same.new nz)) (.tup upd_same (DnAll.vns.mpr rfl)) inc (fun x hx => hbk x ((mem x).mp hx)) fun x => (mem x).trans ⟨hk x, ?_⟩
      rintro ⟨a, l, h1, h2, h3⟩
      obtain ⟨j, hj', e⟩ := List.getElem_of_mem ((M.mem _).mpr h2)
      exact hj j (by rw [hul]; exact hj') a l x (by rw [List.getElem?_eq_getElem hj', e]) h1 h3
def sqHasEnd : Sq := fun vs H Q => ∃ (mv sv : V) (p : Pat) (mvs : List Move) (S : List Nat), vs = [mv, sv] ∧ Mach H mv p mvs ∧ Dn H sv (tupN S) ∧ S.length ≤ 100 ∧ ∀ H', Same H H' → Q (.bl (decide (1 ∈ S))) H'
theorem ok_has_end (W : Wd K mg) : Cl P w K mg base "has_end" ["machine", "stands"] 1 sqHasEnd := by
  refine mk_cl W 15 11 (d := d_has_end) rfl rfl rfl rfl sc_has_end (fun _ _ _ _ _ _ us hl => match us, hl with | [_, _], _ => rfl) (fun vs H Q h => ?_) (fun f cdv A outer s H vs Q E hr h => ?_)
  · obtain ⟨mv, sv, p, mvs, S, rfl, _⟩ := h
    rfl
  · obtain ⟨mv, sv, p, mvs, S, rfl, M, ds, hl, q⟩ := h
    obtain ⟨sa, rfl, es⟩ := ds.tupN_inv
    refine ⟨_, (pss_one (ps_ret (pe_callB (cr_any rfl) (by rfl) (W.free 39) (by decide +kernel) (pa_cons (pe_lc (own := [("stand", 2)]) rfl sc_has_end.nd (pi_tup (pv 1)) (blkOk_by (own := [("stand", 2)]) (N := ["machine", "stands", "stand"]) (sc := d_has_end.scope) (by decide +kernel)) (fun _ _ _ _ _ => (pg_name (i := 2) sc_has_end.nd rfl (Or.inl rfl))) (fun _ _ _ _ _ => pts_nil) (fun _ _ _ _ _ => (pe_cmpR (show OpR _ _ (rInN K) from op_inN) (pv 2) (pe_ix ix_key (pv 0) pe_int (fun _ _ => rfl)) (by rfl)))) pa_nil)))), ?_⟩
    refine ⟨.ref sa, rfl, sa, rfl, ⟨_, .inl (.inl es)⟩, fun D nD => lc_tup (K := K) (a := sa) (xs := S.map vn) (fun i Hx => Same H Hx ∧ Hx D = some (.lst (((S.take i).map fun q => decide (q ∈ [1])).map V.bl))) ⟨Same.new nD, upd_same⟩
      (fun i Hx _ ⟨sx, _⟩ => .inl (.inl (sx _ _ es))) ?_ ?_⟩
    · rintro i x Hx hi ⟨sx, eD⟩
      rw [List.getElem?_map] at hi
      cases ez : S[i]? with
      | none => rw [ez] at hi; cases hi
      | some z =>
        rw [ez] at hi
        cases hi
        have M1 := M.mono (Same.tps sx)
        refine ⟨rfl, lc_yes ?_⟩
        refine ⟨vn z, rfl, mv, rfl, 2, _, _, rfl, M1.dn, rfl, fun u du => ?_⟩
        obtain ⟨t, rfl, et⟩ := (show Dn Hx u (tupN [1]) from du).tupN_inv
        refine ⟨z, t, [1], rfl, rfl, .inr (.inl (.inl et)), _, eD, ?_, But.same nD sx But.upd, ?_⟩
        · rw [List.length_map, List.length_map, List.length_take]
          exact small_lt (m := 100) (by omega) (by decide)
        · rw [upd_same, take_snoc ez, List.map_append, List.map_append] <;> rfl
    · rintro Hx ⟨sx, eD⟩
      rw [List.length_map, List.take_length] at eD
      refine ⟨D, _, rfl, .inl (.inl eD), ?_⟩
      have e2 : (S.map fun q => decide (q ∈ [1])).any id = decide (1 ∈ S) := by
        rw [Bool.eq_iff_iff]
        simp
      rw [e2]
      exact q Hx sx
def sqIsAmong : Sq := fun vs H Q => ∃ (sv tv : V) (S T : List Nat), vs = [sv, tv] ∧ Dn H sv (tupN S) ∧ Dn H tv (tupN T) ∧ S.length ≤ 100 ∧ ∀ H', Same H H' → Q (.bl (S.all fun q => decide (q ∈ T))) H'
theorem ok_is_among (W : Wd K mg) : Cl P w K mg base "is_among" ["few", "many"] 1 sqIsAmong := by
  refine mk_cl W 16 12 (d := d_is_among) rfl rfl rfl rfl sc_is_among (fun _ _ _ _ _ _ us hl => match us, hl with | [_, _], _ => rfl) (fun vs H Q h => ?_) (fun f cdv A outer s H vs Q E hr h => ?_)
  · obtain ⟨sv, tv, S, T, rfl, _⟩ := h
    rfl
  · obtain ⟨sv, tv, S, T, rfl, ds, dt, hl, q⟩ := h
    obtain ⟨sa, rfl, es⟩ := ds.tupN_inv
    obtain ⟨ta, rfl, et⟩ := dt.tupN_inv
    refine ⟨_, (pss_one (ps_ret (pe_callB (cr_all rfl) (by rfl) (W.free 40) (by decide +kernel) (pa_cons (pe_lc (own := [("stand", 2)]) rfl sc_is_among.nd (pi_tup (pv 0)) (blkOk_by (own := [("stand", 2)]) (N := ["few", "many", "stand"]) (sc := d_is_among.scope) (by decide +kernel)) (fun _ _ _ _ _ => (pg_name (i := 2) sc_is_among.nd rfl (Or.inl rfl))) (fun _ _ _ _ _ => pts_nil) (fun _ _ _ _ _ => (pe_cmpR (show OpR _ _ (rInN K) from op_inN) (pv 2) (pv 1) (by rfl)))) pa_nil)))), ?_⟩
    refine ⟨.ref sa, rfl, sa, rfl, ⟨_, .inl (.inl es)⟩, fun D nD => lc_tup (K := K) (a := sa) (xs := S.map vn) (fun i Hx => Same H Hx ∧ Hx D = some (.lst (((S.take i).map fun q => decide (q ∈ T)).map V.bl))) ⟨Same.new nD, upd_same⟩
      (fun i Hx _ ⟨sx, _⟩ => .inl (.inl (sx _ _ es))) ?_ ?_⟩
    · rintro i x Hx hi ⟨sx, eD⟩
      rw [List.getElem?_map] at hi
      cases ez : S[i]? with
      | none => rw [ez] at hi; cases hi
      | some z =>
        rw [ez] at hi
        cases hi
        refine ⟨rfl, lc_yes ?_⟩
        refine ⟨vn z, rfl, .ref ta, rfl, z, ta, T, rfl, rfl, .inr (.inl (.inl (sx _ _ et))), _, eD, ?_, But.same nD sx But.upd, ?_⟩
        · rw [List.length_map, List.length_map, List.length_take]
          exact small_lt (m := 100) (by omega) (by decide)
        · rw [upd_same, take_snoc ez, List.map_append, List.map_append] <;> rfl
    · rintro Hx ⟨sx, eD⟩
      rw [List.length_map, List.take_length] at eD
      refine ⟨D, _, rfl, .inl (.inl eD), ?_⟩
      have e2 : (S.map fun q => decide (q ∈ T)).all id = S.all fun q => decide (q ∈ T) := by
        rw [List.all_map] <;> rfl
      rw [e2]
      exact q Hx sx
end
end Pk
namespace Pk
set_option autoImplicit false
set_option maxRecDepth 100000
set_option maxHeartbeats 2000000
open PySem PySem.Spec PyProof.Rows L2
/-- a new object -/
def Nw (H : Hp) (o : Addr → HO) (Q : VK) : Prop := ∀ (p : Addr) (H' : Hp), Same H H' → H p = none → H' p = some (o p) → Q (.ref p) H'
theorem Nw.use {H : Hp} {o : Addr → HO} {Q : VK} (h : Nw H o Q) : ∀ p, H p = none → Q (.ref p) (upd H p (o p)) := fun p np => h p _ (Same.new np) np upd_same
section
variable {X : Cx}
theorem CallR.imp {f : Value} {r r' : List V → Hp → VK → Prop} (h : CallR X f r) (i : ∀ vs H Q, r' vs H Q → r vs H Q) : CallR X f r' := fun pins s σ H vs us Q I r q => h pins s σ H vs us Q I r (i _ _ _ q)
def nSetS (K : PySem.W.Frag) (w : World) : List V → Hp → VK → Prop := fun xs H Q => ∃ (l : Addr) (ts : List Str), xs = [V.ref l] ∧ (SqL K H l (ts.map V.str) ∨ SqT K H l (ts.map V.str)) ∧ ts.length ≤ 4000 ∧ Nw H (fun a => TSO w a ts) Q
theorem n_setS (hc : X.calm = true) : CallR X (.type "set") (nSetS X.K X.w) := CallR.imp (call_setS hc) fun vs H Q ⟨l, ts, a, b, c, d⟩ => ⟨l, ts, a, b, c, d.use⟩
def nSortS (w : World) : List V → Hp → VK → Prop := fun xs H Q => ∃ (a : Addr) (ts : List Str), xs = [V.ref a] ∧ H a = some (TSO w a ts) ∧ Nw H (fun _ => .lst ((sset ts).map V.str)) Q
theorem n_sortS (hu : X.A.units + 64 < cLine) (hc : X.calm = true) : CallR X (.builtin "sorted") (nSortS X.w) := CallR.imp (call_sortS hu hc) fun vs H Q ⟨l, ts, a, b, d⟩ => ⟨l, ts, a, b, d.use⟩
def nList (K : PySem.W.Frag) : List V → Hp → VK → Prop := fun xs H Q => ∃ (p : Addr) (ys : List V), xs = [.ref p] ∧ (SqL K H p ys ∨ SqT K H p ys) ∧ Nw H (fun _ => .lst ys) Q
theorem n_list : CallR X (.type "list") (nList X.K) := CallR.imp call_list_of fun vs H Q ⟨p, ys, a, b, d⟩ => ⟨p, ys, a, b, d.use⟩
def nTupL (K : PySem.W.Frag) : List V → Hp → VK → Prop := fun xs H Q => ∃ (p : Addr) (ys : List V), xs = [.ref p] ∧ SqL K H p ys ∧ Nw H (fun _ => .tup ys) Q
theorem n_tuple : CallR X (.type "tuple") (nTupL X.K) := CallR.imp call_tuple_of fun vs H Q ⟨p, ys, a, b, d⟩ => ⟨p, ys, a, .inl ⟨b, d.use⟩⟩
def nCat : R2 := fun x y H Q => ∃ (l b : Addr) (xs zs : List V), x = .ref l ∧ y = .ref b ∧ H l = some (.lst xs) ∧ H b = some (.lst zs) ∧ xs.length + zs.length ≤ 100000 ∧ Nw H (fun _ => .lst (xs ++ zs)) Q
theorem n_cat : OpR X (binaryOp .Add) nCat := OpR.imp op_cat fun x y H Q ⟨l, b, xs, zs, e1, e2, h1, h2, h3, d⟩ => ⟨l, b, xs, zs, e1, e2, h1, h2, small_ h3 (by decide), d.use⟩
def nCut (K : PySem.W.Frag) : V → Option Int → Option Int → Hp → VK → Prop := fun x lo hi H Q => ∃ (a : Addr) (xs : List V), x = .ref a ∧ SqL K H a xs ∧ Nw H (fun _ => .lst (cutV xs lo hi)) Q
theorem n_cut : SlR X (nCut X.K) := fun pins s σ H x v vl vu lo hi sl Q I rx hs pl pu ⟨a, xs, e, h, d⟩ => sl_list pins s σ H x v vl vu lo hi sl Q I rx hs pl pu ⟨a, xs, e, h, d.use⟩
def nListD : List V → Hp → VK → Prop := fun xs H Q => ∃ (a : Addr) (kvs : List (Key × V)), xs = [.ref a] ∧ Rd H a (.dK kvs) ∧ Nw H (fun _ => .lst (kvs.map fun kv => kV kv.1)) Q
theorem n_listD (hc : X.calm = true) : CallR X (.type "list") nListD := CallR.imp (call_listD hc) fun vs H Q ⟨a, kvs, e, h, d⟩ => ⟨a, kvs, e, h, d.use⟩
/-! tuples and lists that are written -/
def mcA (t : TA) : TA := fun σ H R => ∃ Q', t σ H Q' ∧ ∀ vs H1, Q' vs H1 → R vs H1
theorem PA.mc {es : List Expr} {t : TA} (h : PA X es t) : PA X es (mcA t) := ⟨fun pos pins s σ H Q I ⟨Q', a, b⟩ => thn (h.run pos pins s σ H Q' I a) fun us s1 ⟨vs, H1, I1, r, q⟩ => ⟨vs, H1, I1, r, b _ _ q⟩⟩
def tTupN (t : TA) : TE := fun σ H Q => t σ H fun xs H1 => xs.length ≤ 1000 ∧ Nw H1 (fun _ => .tup xs) Q
theorem pe_tupN {es : List Expr} {x1} {pos : Pos} {t : TA} (h : PA X es t) : PE X (.Tuple es x1 pos) (tTupN t) :=
  PE.imp (pe_tup (PA.mc h)) fun σ H Q q => ⟨_, q, fun xs H1 ⟨a, b⟩ => ⟨small_ a (by decide), b.use⟩⟩
def tLstN (t : TA) : TE := fun σ H Q => t σ H fun xs H1 => xs.length ≤ 1000 ∧ Nw H1 (fun _ => .lst xs) Q
theorem pe_lstN {es : List Expr} {pos : Pos} {t : TA} (h : PA X es t) : PE X (.List es pos) (tLstN t) :=
  PE.imp (pe_lst (PA.mc h)) fun σ H Q q => ⟨_, q, fun xs H1 ⟨a, b⟩ => ⟨small_ a (by decide), b.use⟩⟩
/-- an expression's reading, made monotone -/
def mcE (t : TE) : TE := fun σ H R => ∃ Q', t σ H Q' ∧ ∀ v H1, Q' v H1 → R v H1
theorem PE.mc {e : Expr} {t : TE} (h : PE X e t) : PE X e (mcE t) := ⟨fun pins s σ H Q I ⟨Q', a, b⟩ => thn (h.run pins s σ H Q' I a) fun u s1 ⟨v, H1, I1, r, q⟩ => ⟨v, H1, I1, r, b _ _ q⟩⟩
end
end Pk
namespace Pk
set_option autoImplicit false
set_option maxRecDepth 100000
set_option maxHeartbeats 4000000
open PySem PySem.Spec PyProof.Rows L2
theorem sc_asked_steps : FnScope ["one", "other", "words", "spare", "found", "side", "letter", "word"] ["one", "other"] d_asked_steps.scope := ⟨rfl, rfl, rfl, by decide +kernel, rfl, by decide +kernel, by decide +kernel⟩
theorem sc_asked_marks : FnScope ["one", "other", "found", "mark", "some"] ["one", "other"] d_asked_marks.scope := ⟨rfl, rfl, rfl, by decide +kernel, rfl, by decide +kernel, by decide +kernel⟩
theorem sc_knot_by : FnScope ["number", "word"] ["number"] d_knot_by.scope := ⟨rfl, rfl, rfl, by decide +kernel, rfl, by decide +kernel, by decide +kernel⟩
/-- a comprehension over the signs of a text -/
theorem lc_str {x : Str} {g : TG} {tt : TT} {te : TE} {vs : List Nat} {σ : L2.St} {H1 : Hp} {D : Addr} {Qd : Hp → Prop} (Pv : Nat → Hp → Prop) (h0 : Pv 0 (upd H1 D (.lst [])))
    (hs : ∀ i c H, x.cps[i]? = some c → Pv i H → g (.str ⟨#[c]⟩) (wipe σ vs) H fun σ2 H2 => wipe σ2 vs = wipe σ vs ∧ tt σ2 H2 fun b H3 =>
      if b = true then te σ2 H3 fun y H4 => ∃ acc, H4 D = some (.lst acc) ∧ acc.length < sizeLine ∧ Pv (i + 1) (upd H4 D (.lst (acc ++ [y]))) else Pv (i + 1) H3) (hd : ∀ H, Pv x.cps.size H → Qd H) :
    ∃ W : Nat → Nat → Hp → Prop, (∃ m, W 0 m (upd H1 D (.lst []))) ∧ ∀ i m H, W i m H →
      ((Its x).stop i H ∧ Qd H) ∨ ((Its x).go i H ∧ ∃ Nx : Hp → Prop, (∀ H', Nx H' → ∃ m', m' < m ∧ W (i + 1) m' H') ∧ ∀ v H', (Its x).yld i H v H' → g v (wipe σ vs) H' fun σ2 H2 => wipe σ2 vs = wipe σ vs ∧ tt σ2 H2 fun b H3 =>
        if b = true then te σ2 H3 fun y H4 => ∃ acc, H4 D = some (.lst acc) ∧ acc.length < sizeLine ∧ Nx (upd H4 D (.lst (acc ++ [y]))) else Nx H3) := by
  refine ⟨fun i m H => m = x.cps.size - i ∧ i ≤ x.cps.size ∧ Pv i H, ⟨x.cps.size, by simp, Nat.zero_le _, h0⟩, ?_⟩
  rintro i m H ⟨em, hi, hp⟩
  rcases Nat.lt_or_ge i x.cps.size with hlt | hge
  · right
    refine ⟨hlt, Pv (i + 1), fun H' hp' => ⟨m - 1, by omega, by omega, hlt, hp'⟩, ?_⟩
    rintro v H' ⟨eH, c, ec, ev⟩
    rw [eH, ev]
    exact hs i c H ec hp
  · left
    have e : i = x.cps.size := Nat.le_antisymm hi hge
    rw [e] at hp ⊢
    exact ⟨Nat.le_refl _, hd H hp⟩
theorem cut_take (xs : List V) (k : Nat) : cutV xs none (some (k : Int)) = xs.take k := by
  unfold cutV
  rw [HT.sIx_none, HT.sIx_nat, List.drop_zero, Nat.sub_zero]
  rcases Nat.le_total k xs.length with h | h
  · rw [Nat.min_eq_left h]
  · rw [Nat.min_eq_right h, List.take_length, List.take_of_length_le h]
def lettersS : Str := "abcdefghijklmnopqrstuvwxyz"
def sg (c : Nat) : Str := ⟨#[c]⟩
def letters : List Str := lettersS.cps.toList.map sg
def spareOf (ws : List Str) : List Str := (letters.filter fun x => !decide (x ∈ ws)).take 1
def skey (s : Str × Str) : NestedKey := .tup [.text s.1, .text s.2]
def pairsOf (sds ws : List Str) : List (Str × Str) := sds.flatMap fun sd => ws.map fun v => (sd, v)
def sideT : List Str := ["on", "back"]
def askW (p q : Pat) : List Str := sset (sset (wds p) ++ sset (wds q))
def askS (p q : Pat) : List (Str × Str) := pairsOf sideT (askW p q ++ spareOf (askW p q))
theorem wds_len (p : Pat) : (sset (wds p)).length ≤ sz p := by
  refine Nat.le_trans (sset_len _) ?_
  suffices h : ∀ n (p : Pat), sz p ≤ n → (wds p).length ≤ sz p from h _ p (Nat.le_refl _)
  intro n
  induction n with
  | zero => intro p h; have := sz_pos p; omega
  | succ n ih =>
    have hps : ∀ ps : List Pat, szs ps ≤ n → (wdss ps).length ≤ szs ps := by
      intro ps
      induction ps with
      | nil => intro _; simp [wdss]
      | cons q ps ih2 =>
        intro h
        simp only [szs, wdss, List.length_append] at *
        have := ih q (by omega)
        have := ih2 (by omega)
        omega
    intro p h
    cases p with
    | step s v => simp only [wds, sz]; split <;> simp
    | thn ps => simp only [wds, sz] at *; have := hps ps (by omega); omega
    | eit ps => simp only [wds, sz] at *; have := hps ps (by omega); omega
    | many q => simp only [wds, sz] at *; have := ih q (by omega); omega
    | _ => simp [wds, sz]
theorem mks_len (p : Pat) : (sset (mks p)).length ≤ sz p := by
  refine Nat.le_trans (sset_len _) ?_
  suffices h : ∀ n (p : Pat), sz p ≤ n → (mks p).length ≤ sz p from h _ p (Nat.le_refl _)
  intro n
  induction n with
  | zero => intro p h; have := sz_pos p; omega
  | succ n ih =>
    have hps : ∀ ps : List Pat, szs ps ≤ n → (mkss ps).length ≤ szs ps := by
      intro ps
      induction ps with
      | nil => intro _; simp [mkss]
      | cons q ps ih2 =>
        intro h
        simp only [szs, mkss, List.length_append] at *
        have := ih q (by omega)
        have := ih2 (by omega)
        omega
    intro p h
    cases p with
    | thn ps => simp only [mks, sz] at *; have := hps ps (by omega); omega
    | eit ps => simp only [mks, sz] at *; have := hps ps (by omega); omega
    | many q => simp only [mks, sz] at *; have := ih q (by omega); omega
    | _ => simp [mks, sz]
theorem pairs_snoc (sds ws : List Str) (sd : Str) : pairsOf (sds ++ [sd]) ws = pairsOf sds ws ++ ws.map fun v => (sd, v) := by
  unfold pairsOf
  rw [List.flatMap_append]
  simp
theorem pairs_len (sds ws : List Str) : (pairsOf sds ws).length = sds.length * ws.length := by
  unfold pairsOf
  induction sds with
  | nil => simp
  | cons s sds ih => simp [List.flatMap_cons, ih, Nat.succ_mul, Nat.add_comm]
section
variable {P : Program} {w : World} {K : PySem.W.Frag} {mg : Str → Option Value} {base : Heap}
def sqAskedSteps : Sq := fun vs H Q => ∃ (v u : V) (p r : Pat), vs = [v, u] ∧ Dn H v (pkey p) ∧ Dn H u (pkey r) ∧ sz p ≤ 8 ∧ sz r ≤ 8 ∧
  ∀ (a : Addr) (H' : Hp), Same H H' → H a = none → Lk H' a ((askS p r).map skey) → Q (.ref a) H'
theorem ok_asked_steps (W : Wd K mg) : Cl P w K mg base "asked_steps" ["one", "other"] 4 sqAskedSteps := by
  refine mk_cl W 13 9 (d := d_asked_steps) rfl rfl rfl rfl sc_asked_steps (fun _ _ _ _ _ _ us hl => match us, hl with | [_, _], _ => rfl) (fun vs H Q h => ?_) (fun f cdv A outer s H vs Q E hr h => ?_)
  · obtain ⟨v, u, p, r, rfl, _⟩ := h
    rfl
  · obtain ⟨v, u, p, r, rfl, hp, hr', hz, hz', q⟩ := h
    have hu := hr.units
    have c_words_in : Cl P w K mg base "words_in" ["pattern"] 3 sqWordsIn := ok_words_in W
    obtain ⟨tA, hLETTERS⟩ := W.str 68
    refine ⟨_, (pss_cons (ps_set (i := 2) sc_asked_steps.nd rfl (Or.inr rfl) (pe_callB (n_sortS hu rfl) (by rfl) (W.free 33) (by decide +kernel) (pa_cons (pe_callTy (n_setS rfl) (by rfl) (W.free 34) (by decide +kernel) (pa_cons (pe_op n_cat (pe_fn c_words_in (hr.mono (by omega)) (by rfl) (pa_cons (pv 0) pa_nil)) (pe_fn c_words_in (hr.mono (by omega)) (by rfl) (pa_cons (pv 1) pa_nil))) pa_nil)) pa_nil)))
      (pss_cons (ps_setLc (i := 3) (own := [("letter", 6)]) rfl sc_asked_steps.nd rfl rfl (sw_true rfl rfl rfl (by decide +kernel)) (pi_str (pe_glob (v := .str "abcdefghijklmnopqrstuvwxyz") rfl hLETTERS ⟨_, rfl⟩)) (blkOk_by (own := [("letter", 6)]) (N := ["one", "other", "words", "spare", "found", "side", "letter", "word"]) (sc := d_asked_steps.scope) (by decide +kernel)) (fun _ _ _ _ _ => (pg_name (i := 6) sc_asked_steps.nd rfl (Or.inl rfl))) (fun _ _ _ _ _ => (pts_one (pt_cmpR (show OpR _ _ (rNotInS K) from op_notInS) (pv 6) (pv 2) (by rfl)))) (fun _ _ _ _ _ => (pv 6)))
      (pss_cons (ps_set (i := 4) sc_asked_steps.nd rfl (Or.inl rfl) (pe_lstN pa_nil))
      (pss_cons (ps_for PassesOwn.never rfl (pi_tup (pe_glob (v := .ref (He.ga K "SIDES")) rfl (W.glo 70) rfl)) (pg_name (i := 5) sc_asked_steps.nd rfl (Or.inr rfl))
        (pss_one (ps_expr (pe_bm PySem.F.plainAttrs_list PySem.F.slot_list_extend PySem.F.type_list_extend mt_extend (pv 4) (pa_cons (pe_lc (own := [("word", 7)]) rfl sc_asked_steps.nd (pi_list (pe_op n_cat (pv 2) (pe_slice n_cut (pv 3) po_none (po_some pe_int)))) (blkOk_by (own := [("word", 7)]) (N := ["one", "other", "words", "spare", "found", "side", "letter", "word"]) (sc := d_asked_steps.scope) (by decide +kernel)) (fun _ _ _ _ _ => (pg_name (i := 7) sc_asked_steps.nd rfl (Or.inl rfl))) (fun _ _ _ _ _ => pts_nil) (fun _ _ _ _ _ => (pe_tupN (pa_cons (pv 5) (pa_cons (pv 7) pa_nil))))) pa_nil)))))
      (pss_one (ps_ret (pv 4))))))), ?_⟩
    refine ⟨v, rfl, v, p, rfl, hp, by omega, fun a1 H1 s1 na1 e1 => ⟨u, rfl, u, r, rfl, hr'.mono (Same.tps s1), by omega, fun a2 H2 s2 na2 e2 => ?_⟩⟩
    have l1 := wds_len p
    have l2 := wds_len r
    refine ⟨a1, a2, _, _, rfl, rfl, s2 _ _ e1, e2, by rw [List.length_map, List.length_map]; omega, fun a3 H3 s3 na3 e3 => ?_⟩
    rw [← List.map_append] at e3
    refine ⟨a3, _, rfl, .inl (.inl (.inl e3)), by rw [List.length_append]; omega, fun S H4 s4 nS e4 => ⟨S, _, rfl, e4, fun wl H5 s5 nwl ew => ?_⟩⟩
    have sH5 : Same H H5 := Same.trans (Same.trans (Same.trans (Same.trans s1 s2) s3) s4) s5
    have eW : H5 wl = some (.lst ((askW p r).map V.str)) := ew
    have nw0 : H wl = none := (Same.trans (Same.trans (Same.trans s1 s2) s3) s4).free nwl
    clear e3 e4 e1 e2 ew
    obtain ⟨wsL, eWL⟩ : ∃ wsL, wsL = askW p r := ⟨_, rfl⟩
    rw [← eWL] at eW
    obtain ⟨Fl, eFl⟩ : ∃ Fl, Fl = letters.filter fun x => !decide (x ∈ wsL) := ⟨_, rfl⟩
    have hwl : wsL.length ≤ 16 := by
      rw [eWL]
      refine Nat.le_trans (sset_len _) ?_
      rw [List.length_append]
      omega
    refine ⟨lettersS, rfl, fun sl nsl => lc_str (x := lettersS) (fun i Hx => Same H5 Hx ∧ Hx sl = some (.lst (((letters.take i).filter fun x => !decide (x ∈ wsL)).map V.str))) ⟨Same.new nsl, upd_same⟩ ?_ ?_⟩
    · rintro i c Hx ec ⟨sx, eD⟩
      have el : letters[i]? = some (sg c) := by
        unfold letters
        rw [List.getElem?_map, Array.getElem?_toList, ec] <;> rfl
      have hil : i < 26 := (List.getElem?_eq_some_iff.mp el).1
      have hlen : (((letters.take i).filter fun x => !decide (x ∈ wsL)).map V.str).length ≤ 100 := by
        rw [List.length_map]
        refine Nat.le_trans (List.length_filter_le _ _) ?_
        rw [List.length_take]
        omega
      rw [take_snoc el, List.filter_append]
      refine ⟨rfl, _, rfl, .ref wl, rfl, sg c, wl, wsL, rfl, rfl, .inl (.inl (.inl (sx _ _ eW))), _, rfl, ?_⟩
      refine ite2 (fun e => ?_) (fun e => ?_)
      · refine ⟨_, rfl, _, eD, small_lt hlen (by decide), But.same nsl sx But.upd, ?_⟩
        rw [upd_same, List.map_append, List.filter_cons_of_pos (p := fun x => !decide (x ∈ wsL)) e] <;> rfl
      · rw [List.filter_cons_of_neg (p := fun x => !decide (x ∈ wsL)) e]
        rw [List.filter_nil, List.append_nil]
        exact ⟨sx, eD⟩
    · rintro Hx ⟨sx, eD⟩
      have e26 : letters.take lettersS.cps.size = letters := List.take_of_length_le (by unfold letters; rw [List.length_map, Array.length_toList]; exact Nat.le_refl _)
      rw [e26, ← eFl] at eD
      have eW := sx _ _ eW
      have sHx := Same.trans sH5 sx
      have hFl : Fl.length ≤ 26 := by
        rw [eFl]
        exact Nat.le_trans (List.length_filter_le _ _) (by decide +kernel)
      refine ⟨Nat.zero_le _, fun fl H6 s6 nf ef => ?_⟩
      refine ⟨_, rfl, ⟨_, W.sides H6⟩, for_tup (K := K) (a := He.ga K "SIDES") (xs := sideT.map V.str) (fun i σ H' => ∃ (v5 : Option V), σ = [some v, some u, some (.ref wl), some (.ref sl), some (.ref fl), v5, none, none] ∧ Same Hx H' ∧ Lk H' fl ((pairsOf (sideT.take i) (wsL ++ Fl.take 1)).map skey)) ?_ ?_ ?_ ?_⟩
      · exact ⟨none, rfl, s6, ⟨_, ef, .nil⟩⟩
      · rintro i σ H7 hi _
        exact W.sides H7
      · rintro i x σ H7 hi ⟨v5, rfl, s7, ⟨ys, ey, dy⟩⟩
        rw [List.getElem?_map] at hi
        cases ez : sideT[i]? with
        | none => rw [ez] at hi; cases hi
        | some sd =>
          rw [ez] at hi
          cases hi
          have hi2 : i < 2 := (List.getElem?_eq_some_iff.mp ez).1
          have eW7 := s7 _ _ eW
          have eD7 := s7 _ _ eD
          have hyl : ys.length = (pairsOf (sideT.take i) (wsL ++ Fl.take 1)).length := by rw [dy.length, List.length_map]
          rw [pairs_len, List.length_append, List.length_take, List.length_take] at hyl
          have hy100 : ys.length ≤ 100 := by
            rw [hyl]
            have h1 : min i sideT.length ≤ 2 := by omega
            have h2 : wsL.length + min 1 Fl.length ≤ 17 := by omega
            exact Nat.le_trans (Nat.mul_le_mul h1 h2) (by decide)
          refine ⟨.ref fl, rfl, .inl ⟨rfl, _, .inl (.inl ey)⟩, .ref wl, rfl, .ref sl, rfl, 1, rfl, sl, _, rfl, .inl (.inl eD7), fun c Hc sc nc ec => ?_⟩
          rw [show (some 1 : Option Int) = some ((1 : Nat) : Int) from rfl, cut_take, ← List.map_take] at ec
          refine ⟨wl, c, _, _, rfl, rfl, sc _ _ eW7, ec, by rw [List.length_map, List.length_map, List.length_take]; omega, fun k Hk sk nk ek => ?_⟩
          rw [← List.map_append] at ek
          refine ⟨k, rfl, ⟨_, .inl (.inl ek)⟩, fun D nD => lc_list (K := K) (a := k) (xs := (wsL ++ Fl.take 1).map V.str) (fun j Hy => Same Hk Hy ∧ Lk Hy D ((((wsL ++ Fl.take 1).take j).map fun v => (sd, v)).map skey)) ⟨Same.new nD, ⟨_, upd_same, .nil⟩⟩
            (fun j Hy _ ⟨sy, _⟩ => .inl (.inl (sy _ _ ek))) ?_ ?_⟩
          · rintro j y Hy hj ⟨sy, ⟨acc, eacc, dacc⟩⟩
            rw [List.getElem?_map] at hj
            cases ezj : (wsL ++ Fl.take 1)[j]? with
            | none => rw [ezj] at hj; cases hj
            | some z =>
              rw [ezj] at hj
              cases hj
              have hal : acc.length ≤ 100 := by
                rw [dacc.length, List.length_map, List.length_map, List.length_take, List.length_append, List.length_take]
                omega
              refine ⟨rfl, lc_yes ?_⟩
              refine ⟨.str sd, rfl, .str z, rfl, by show 2 ≤ 1000; decide, fun t Ht st nt et => ⟨acc, st _ _ eacc, small_lt hal (by decide), But.same nD (Same.trans sy st) But.upd, ?_⟩⟩
              have tt : Tps Ht (upd Ht D (.lst (acc ++ [.ref t]))) := Tps.mut (st _ _ eacc) (by intro xs z; cases z)
              rw [take_snoc ezj, List.map_append, List.map_append]
              refine ⟨_, upd_same, ((dacc.mono (Same.tps st)).mono tt).append (.cons (.tup (tt _ _ et) (.cons (.text _) (.cons (.text _) .nil))) .nil)⟩
          · rintro Hy ⟨sy, ⟨acc, eacc, dacc⟩⟩
            rw [List.length_map, List.take_length] at dacc
            have s78 : Same H7 Hy := Same.trans (Same.trans sc sk) sy
            have ey8 := s78 _ _ ey
            have hal : acc.length ≤ 100 := by
              rw [dacc.length, List.length_map, List.length_map, List.length_append, List.length_take]
              omega
            refine ⟨fl, D, ys, acc, rfl, rfl, ey8, eacc, small_ (m := 1000) (by omega) (by decide), ?_⟩
            have tt : Tps Hy (upd Hy fl (.lst (ys ++ acc))) := Tps.mut ey8 (by intro xs z; cases z)
            refine ⟨_, rfl, But.same nf (Same.trans s7 s78) But.upd, _, upd_same, ?_⟩
            rw [take_snoc ez, pairs_snoc, List.map_append]
            exact ((dy.mono (Same.tps s78)).mono tt).append (dacc.mono tt)
      · rintro σ H7 ⟨v5, rfl, s7, lk⟩
        refine ⟨.ref fl, rfl, q fl H7 (Same.trans sHx s7) (Same.free sHx nf) ?_⟩
        have e1 : sideT.take (sideT.map V.str).length = sideT := rfl
        rw [e1, eFl, eWL] at lk
        exact lk
end
end Pk
namespace Pk
set_option autoImplicit false
set_option maxRecDepth 100000
set_option maxHeartbeats 4000000
open PySem PySem.Spec PyProof.Rows L2
/-- rows of texts, each a list by itself -/
structure AllT (K : PySem.W.Frag) (H : Hp) (vs : List V) (tss : List (List Str)) : Prop where
  len : vs.length = tss.length
  at_ : ∀ (i : Nat) (v : V) (ts : List Str), vs[i]? = some v → tss[i]? = some ts → ∃ b, v = .ref b ∧ H b = some (.lst (ts.map V.str))
theorem AllT.keep {K : PySem.W.Frag} {H H' : Hp} {vs : List V} {tss : List (List Str)} (a : AllT K H vs tss) (s : Same H H') : AllT K H' vs tss := ⟨a.len, fun i v ts h k => let ⟨b, e, f⟩ := a.at_ i v ts h k; ⟨b, e, s _ _ f⟩⟩
theorem AllT.nil {K : PySem.W.Frag} {H : Hp} : AllT K H [] [] := ⟨rfl, fun i v ts h => (by simp at h)⟩
theorem AllT.append {K : PySem.W.Frag} {H : Hp} {vs us : List V} {tss rss : List (List Str)} (a : AllT K H vs tss) (b : AllT K H us rss) : AllT K H (vs ++ us) (tss ++ rss) where
  len := by rw [List.length_append, List.length_append, a.len, b.len]
  at_ := fun i v ts h k => by
    by_cases hi : i < vs.length
    · rw [List.getElem?_append_left hi] at h
      rw [List.getElem?_append_left (by rw [← a.len]; exact hi)] at k
      exact a.at_ i v ts h k
    · rw [List.getElem?_append_right (by omega)] at h
      rw [List.getElem?_append_right (by rw [← a.len]; omega), ← a.len] at k
      exact b.at_ _ v ts h k
theorem AllT.one {K : PySem.W.Frag} {H : Hp} {b : Addr} {ts : List Str} (h : H b = some (.lst (ts.map V.str))) : AllT K H [.ref b] [ts] where
  len := rfl
  at_ := fun i v ts' h1 h2 => by
    cases i with
    | zero => cases h1; cases h2; exact ⟨b, rfl, h⟩
    | succ i => simp at h1
theorem AllT.get {K : PySem.W.Frag} {H : Hp} {vs : List V} {tss : List (List Str)} (a : AllT K H vs tss) {i : Nat} {v : V} (h : vs[i]? = some v) : ∃ b ts, v = .ref b ∧ tss[i]? = some ts ∧ H b = some (.lst (ts.map V.str)) := by
  have hi : i < tss.length := by rw [← a.len]; exact (List.getElem?_eq_some_iff.mp h).1
  obtain ⟨b, e, f⟩ := a.at_ i v _ h (List.getElem?_eq_getElem hi)
  exact ⟨b, _, e, List.getElem?_eq_getElem hi, f⟩
theorem AllT.upd {K : PySem.W.Frag} {H : Hp} {D : Addr} {o : HO} {vs : List V} {tss : List (List Str)} (a : AllT K H vs tss) (e : H D = some (.lst vs)) : AllT K (upd H D o) vs tss := ⟨a.len, fun i v ts h k => by
  obtain ⟨b, e1, f⟩ := a.at_ i v ts h k
  refine ⟨b, e1, ?_⟩
  have n : b ≠ D := fun z => by
    rw [z, e] at f
    have e2 : vs = ts.map V.str := HO.lst.inj (Option.some.inj f)
    rw [e2, List.getElem?_map, e1] at h
    cases e3 : ts[i]? with
    | none => rw [e3] at h; cases h
    | some x => rw [e3] at h; cases h
  rw [upd_ne n]
  exact f⟩
/-- all choices of marks, in the order of the text -/
def subsF (ms : List Str) : List (List Str) := ms.foldl (fun acc m => acc ++ acc.map fun ts => ts ++ [m]) [[]]
theorem subsF_snoc (ms : List Str) (m : Str) : subsF (ms ++ [m]) = subsF ms ++ (subsF ms).map fun ts => ts ++ [m] := by
  unfold subsF
  rw [List.foldl_append] <;> rfl
theorem snoc_ind {α : Type} {P : List α → Prop} (h0 : P []) (h : ∀ l x, P l → P (l ++ [x])) : ∀ l, P l := by
  intro l
  rw [← List.reverse_reverse l]
  induction l.reverse with
  | nil => exact h0
  | cons x r ih => rw [List.reverse_cons]; exact h _ _ ih
theorem subsF_len (ms : List Str) : (subsF ms).length = 2 ^ ms.length := by
  induction ms using snoc_ind with
  | h0 => rfl
  | h l x ih => rw [subsF_snoc, List.length_append, List.length_map, ih, List.length_append, List.length_singleton, Nat.pow_succ]; omega
theorem subsF_small {ms ts : List Str} (h : ts ∈ subsF ms) : ts.length ≤ ms.length := by
  induction ms using snoc_ind generalizing ts with
  | h0 =>
    rw [show subsF [] = [[]] from rfl, List.mem_singleton] at h
    rw [h] <;> simp
  | h l x ih =>
    rw [subsF_snoc] at h
    rw [List.length_append, List.length_singleton]
    rcases List.mem_append.mp h with h | h
    · have := ih h; omega
    · obtain ⟨z, hz, rfl⟩ := List.mem_map.mp h
      have := ih hz
      rw [List.length_append, List.length_singleton]
      omega
def askM (p q : Pat) : List Str := sset (sset (mks p) ++ sset (mks q))
def LT (K : PySem.W.Frag) (H : Hp) (a : Addr) (tss : List (List Str)) : Prop := ∃ vs, H a = some (.lst vs) ∧ AllT K H vs tss
section
variable {P : Program} {w : World} {K : PySem.W.Frag} {mg : Str → Option Value} {base : Heap}
def sqAskedMarks (K : PySem.W.Frag) : Sq := fun vs H Q => ∃ (v u : V) (p r : Pat), vs = [v, u] ∧ Dn H v (pkey p) ∧ Dn H u (pkey r) ∧ sz p ≤ 8 ∧ sz r ≤ 8 ∧ (askM p r).length ≤ 6 ∧
  ∀ (a : Addr) (H' : Hp), Same H H' → H a = none → LT K H' a (subsF (askM p r)) → Q (.ref a) H'
theorem ok_asked_marks (W : Wd K mg) : Cl P w K mg base "asked_marks" ["one", "other"] 4 (sqAskedMarks K) := by
  refine mk_cl W 14 10 (d := d_asked_marks) rfl rfl rfl rfl sc_asked_marks (fun _ _ _ _ _ _ us hl => match us, hl with | [_, _], _ => rfl) (fun vs H Q h => ?_) (fun f cdv A outer s H vs Q E hr h => ?_)
  · obtain ⟨v, u, p, r, rfl, _⟩ := h
    rfl
  · obtain ⟨v, u, p, r, rfl, hp, hr', hz, hz', hm6, q⟩ := h
    have hu := hr.units
    have c_marks_in : Cl P w K mg base "marks_in" ["pattern"] 3 sqMarksIn := ok_marks_in W
    refine ⟨_, (pss_cons (ps_set (i := 2) sc_asked_marks.nd rfl (Or.inl rfl) (pe_lstN (pa_cons (pe_lstN pa_nil) pa_nil)))
      (pss_cons (ps_for PassesOwn.never rfl (pi_list (pe_callB (n_sortS hu rfl) (by rfl) (W.free 33) (by decide +kernel) (pa_cons (pe_callTy (n_setS rfl) (by rfl) (W.free 34) (by decide +kernel) (pa_cons (pe_op n_cat (pe_fn c_marks_in (hr.mono (by omega)) (by rfl) (pa_cons (pv 0) pa_nil)) (pe_fn c_marks_in (hr.mono (by omega)) (by rfl) (pa_cons (pv 1) pa_nil))) pa_nil)) pa_nil))) (pg_name (i := 3) sc_asked_marks.nd rfl (Or.inr rfl))
        (pss_one (ps_set (i := 2) sc_asked_marks.nd rfl (Or.inl rfl) (pe_op n_cat (pv 2) (pe_lc (own := [("some", 4)]) rfl sc_asked_marks.nd (pi_list (pv 2)) (blkOk_by (own := [("some", 4)]) (N := ["one", "other", "found", "mark", "some"]) (sc := d_asked_marks.scope) (by decide +kernel)) (fun _ _ _ _ _ => (pg_name (i := 4) sc_asked_marks.nd rfl (Or.inl rfl))) (fun _ _ _ _ _ => pts_nil) (fun _ _ _ _ _ => (pe_op n_cat (pv 4) (pe_lstN (pa_cons (pv 3) pa_nil)))))))))
      (pss_one (ps_ret (pv 2))))), ?_⟩
    refine ⟨Nat.zero_le _, fun z0 H0 s0 n0 e0 => ⟨by show 1 ≤ 1000; decide, fun fl Hf sf nf ef => ?_⟩⟩
    have sf1 := Same.trans s0 sf
    refine ⟨v, rfl, v, p, rfl, hp.mono (Same.tps sf1), by omega, fun a1 H1 s1 na1 e1 => ⟨u, rfl, u, r, rfl, (hr'.mono (Same.tps sf1)).mono (Same.tps s1), by omega, fun a2 H2 s2 na2 e2 => ?_⟩⟩
    have l1 := mks_len p
    have l2 := mks_len r
    refine ⟨a1, a2, _, _, rfl, rfl, s2 _ _ e1, e2, by rw [List.length_map, List.length_map]; omega, fun a3 H3 s3 na3 e3 => ?_⟩
    rw [← List.map_append] at e3
    refine ⟨a3, _, rfl, .inl (.inl (.inl e3)), by rw [List.length_append]; omega, fun S H4 s4 nS e4 => ⟨S, _, rfl, e4, fun ml H5 s5 nml em => ?_⟩⟩
    have sH5 : Same Hf H5 := Same.trans (Same.trans (Same.trans (Same.trans s1 s2) s3) s4) s5
    have eM : H5 ml = some (.lst ((askM p r).map V.str)) := em
    have ef5 : LT K H5 fl (subsF []) := ⟨_, sH5 _ _ ef, AllT.one (sH5 _ _ (sf _ _ e0))⟩
    clear e3 e4 e1 e2 em
    obtain ⟨M, eMM⟩ : ∃ M, M = askM p r := ⟨_, rfl⟩
    rw [← eMM] at eM hm6 q
    refine ⟨ml, rfl, ⟨_, .inl (.inl eM)⟩, for_list (K := K) (a := ml) (xs := M.map V.str) (fun i σ H' => ∃ (v3 : Option V) (fl : Addr), σ = [some v, some u, some (.ref fl), v3, none] ∧ Same H5 H' ∧ H fl = none ∧ LT K H' fl (subsF (M.take i))) ?_ ?_ ?_ ?_⟩
    · exact ⟨none, fl, rfl, Same.refl _, s0.free nf, ef5⟩
    · rintro i σ H7 hi ⟨v3, fl, rfl, s7, _⟩
      exact .inl (.inl (s7 _ _ eM))
    · rintro i x σ H7 hi ⟨v3, fl, rfl, s7, nfl, ys, ey, ay⟩
      rw [List.getElem?_map] at hi
      cases ez : M[i]? with
      | none => rw [ez] at hi; cases hi
      | some m =>
        rw [ez] at hi
        cases hi
        have hi6 : i < 6 := Nat.lt_of_lt_of_le (List.getElem?_eq_some_iff.mp ez).1 hm6
        have hlen : (subsF (M.take i)).length ≤ 64 := by
          rw [subsF_len]
          have : (M.take i).length ≤ 6 := by rw [List.length_take]; omega
          exact Nat.le_trans (Nat.pow_le_pow_right (by decide) this) (by decide)
        refine ⟨.ref fl, rfl, .ref fl, rfl, fl, rfl, ⟨_, .inl (.inl ey)⟩, fun D nD => lc_list (K := K) (a := fl) (xs := ys) (fun j Hy => Same H7 Hy ∧ LT K Hy D (((subsF (M.take i)).take j).map fun ts => ts ++ [m])) ⟨Same.new nD, ⟨_, upd_same, AllT.nil⟩⟩
          (fun j Hy _ ⟨sy, _⟩ => .inl (.inl (sy _ _ ey))) ?_ ?_⟩
        · rintro j y Hy hj ⟨sy, acc, eacc, aacc⟩
          obtain ⟨b, ts, rfl, ets, eb⟩ := ay.get hj
          have hal : acc.length ≤ 64 := by
            rw [aacc.len, List.length_map, List.length_take]
            omega
          have hts := subsF_small (List.mem_of_getElem? ets)
          rw [List.length_take] at hts
          refine ⟨rfl, lc_yes ?_⟩
          refine ⟨.ref b, rfl, .str m, rfl, by show 1 ≤ 1000; decide, fun c Hc sc nc ec => ?_⟩
          refine ⟨b, c, ts.map V.str, [.str m], rfl, rfl, sc _ _ (sy _ _ eb), ec, by rw [List.length_map]; show _ + 1 ≤ _; omega, fun t Ht st nt et => ?_⟩
          have sct := Same.trans sc st
          refine ⟨acc, sct _ _ eacc, small_lt hal (by decide), But.same nD (Same.trans sy sct) But.upd, ?_⟩
          rw [take_snoc ets, List.map_append]
          have eact := sct _ _ eacc
          have ntD : t ≠ D := (ne_of_none (sc _ _ eacc) nt).symm
          refine ⟨_, upd_same, ?_⟩
          have a2 := (aacc.keep sct).upd eact (o := .lst (acc ++ [.ref t]))
          exact a2.append (AllT.one (by rw [upd_ne ntD, et, List.map_append] <;> rfl))
        · rintro Hy ⟨sy, acc, eacc, aacc⟩
          rw [ay.len, List.take_length] at aacc
          have hal : acc.length ≤ 64 := by
            rw [aacc.len, List.length_map]
            omega
          refine ⟨fl, D, ys, acc, rfl, rfl, sy _ _ ey, eacc, by rw [ay.len]; omega, fun q Hq sq nq eq => ?_⟩
          refine ⟨_, q, rfl, Same.trans (Same.trans s7 sy) sq, Same.free (Same.trans (Same.trans (Same.trans sf1 sH5) s7) sy) nq, _, eq, ?_⟩
          rw [take_snoc ez, subsF_snoc]
          exact ((ay.keep sy).keep sq).append (aacc.keep sq)
    · rintro σ H7 ⟨v3, fl, rfl, s7, nfl, lt⟩
      refine ⟨.ref fl, rfl, q fl H7 (Same.trans (Same.trans sf1 sH5) s7) nfl ?_⟩
      rw [List.length_map, List.take_length] at lt
      exact lt
end
end Pk
namespace Pk
set_option autoImplicit false
set_option maxRecDepth 100000
set_option maxHeartbeats 4000000
open PySem PySem.Spec PyProof.Rows L2
def knStep (k : Nat) (z : Str) : Str := if k < 26 then z else sg (97 + k / 26 % 26) ++ z
def knotF (n : Nat) : Str := knStep n (sg (97 + n % 26))
theorem letter_at {i : Nat} (h : i < 26) : lettersS.cps[i]? = some (97 + i) := by
  have : ∀ i : Fin 26, lettersS.cps[i.val]? = some (97 + i.val) := by decide +kernel
  exact this ⟨i, h⟩
theorem fmod_nat (n m : Nat) : ((n : Int).fmod (m : Int)) = ((n % m : Nat) : Int) := by
  rw [Int.fmod_eq_emod_of_nonneg _ (by omega)] <;> rfl
theorem fdiv_nat (n m : Nat) : ((n : Int).fdiv (m : Int)) = ((n / m : Nat) : Int) := by
  rw [Int.fdiv_eq_ediv_of_nonneg _ (by omega)] <;> rfl
section
variable {P : Program} {w : World} {K : PySem.W.Frag} {mg : Str → Option Value} {base : Heap}
def sqKnotBy : Sq := fun vs H Q => ∃ (n : Nat), vs = [vn n] ∧ n < 676 ∧ Q (.str (knotF n)) H
theorem ok_knot_by (W : Wd K mg) : Cl P w K mg base "knot_by" ["number"] 1 sqKnotBy := by
  refine mk_cl W 17 13 (d := d_knot_by) rfl rfl rfl rfl sc_knot_by (fun _ _ _ _ _ _ us hl => match us, hl with | [_], _ => rfl) (fun vs H Q h => ?_) (fun f cdv A outer s H vs Q E hr h => ?_)
  · obtain ⟨n, rfl, _⟩ := h
    rfl
  · obtain ⟨n, rfl, hn, q⟩ := h
    obtain ⟨tA, hLETTERS⟩ := W.str 68
    refine ⟨_, (pss_cons (ps_set (i := 1) sc_knot_by.nd rfl (Or.inl rfl) (pe_item_str (pe_glob (v := .str "abcdefghijklmnopqrstuvwxyz") rfl hLETTERS ⟨_, rfl⟩) (pe_op op_modN (pv 0) pe_int) (fun _ _ => rfl)))
      (pss_cons (ps_while PassesOwn.never (pt_cmpR op_gt (pv 0) pe_int (nomark _))
        (pss_cons (ps_set (i := 0) sc_knot_by.nd rfl (Or.inl rfl) (pe_op op_fdivN (pv 0) pe_int))
        (pss_one (ps_set (i := 1) sc_knot_by.nd rfl (Or.inl rfl) (pe_op op_add_str (pe_item_str (pe_glob (v := .str "abcdefghijklmnopqrstuvwxyz") rfl hLETTERS ⟨_, rfl⟩) (pe_op op_modN (pv 0) pe_int) (fun _ _ => rfl)) (pv 1))))))
      (pss_one (ps_ret (pv 1))))), ?_⟩
    have itm : ∀ k : Nat, ∃ (z : Str) (i : Int) (c : Nat), V.str "abcdefghijklmnopqrstuvwxyz" = .str z ∧ V.int ((k : Int).fmod 26) = .int i ∧ 0 ≤ i ∧ i < 2 ^ 63 ∧ i < z.length ∧ z.cps[i.toNat]? = some c ∧ c = 97 + k % 26 := fun k => by
      have h26 : k % 26 < 26 := Nat.mod_lt _ (by decide)
      have e : (k : Int).fmod 26 = ((k % 26 : Nat) : Int) := fmod_nat k 26
      refine ⟨lettersS, _, 97 + k % 26, rfl, rfl, by rw [e]; omega, by rw [e]; omega, ?_, ?_, rfl⟩
      · rw [e]
        have : lettersS.length = 26 := by decide +kernel
        rw [this]
        omega
      · rw [e, Int.toNat_natCast]
        exact letter_at h26
    obtain ⟨z, i, c, h1, h2, h3, h4, h5, h6, hc⟩ := itm n
    refine ⟨vn n, rfl, _, _, rfl, rfl, (show (26 : Int) ≠ 0 by decide), z, i, c, h1, h2, h3, h4, h5, h6, ?_⟩
    obtain ⟨I, hI⟩ : ∃ I : Nat → L2.St → Hp → Prop, I = fun m σ H' => ∃ (k : Nat) (z : Str), σ = [some (vn k), some (.str z)] ∧ H' = H ∧ m = k ∧ k < 676 ∧ (26 ≤ k → z.length ≤ 1) ∧ knStep k z = knotF n := ⟨_, rfl⟩
    refine ⟨I, ⟨n, ?_⟩, ?_⟩
    · rw [hI]
      exact ⟨n, sg c, rfl, rfl, rfl, hn, fun _ => (show 1 ≤ 1 by decide), by rw [hc] <;> rfl⟩
    · intro m σ H' h
      rw [hI] at h
      obtain ⟨k, z, rfl, rfl, rfl, hk, hz1, hkn⟩ := h
      refine ⟨vn m, rfl, _, _, rfl, rfl, _, rfl, ?_⟩
      refine ite2 (fun hgt => ?_) (fun hgt => ?_)
      · have hgt : 25 < m := by
          have := of_decide_eq_true hgt
          omega
        refine ⟨fun σ' H' => ∃ m', m' < m ∧ I m' σ' H', fun σ' H' h => h, ?_⟩
        refine ⟨vn m, rfl, _, _, rfl, rfl, ⟨by decide, by decide⟩, ?_⟩
        obtain ⟨z2, i2, c2, g1, g2, g3, g4, g5, g6, hc2⟩ := itm (m / 26)
        have e2 : (m : Int).fdiv 26 = ((m / 26 : Nat) : Int) := fdiv_nat m 26
        refine ⟨.int ((m : Int).fdiv 26), rfl, _, _, rfl, rfl, (show (26 : Int) ≠ 0 by decide), z2, i2, c2, g1, (by rw [e2]; exact g2), g3, g4, g5, g6, .str z, rfl, _, _, rfl, rfl, ?_, m / 26, by omega, ?_⟩
        · have := hz1 (by omega)
          exact small_ (m := 10) (by show 1 + z.length ≤ 10; omega) (by decide)
        · rw [hI]
          refine ⟨m / 26, sg c2 ++ z, ?_, rfl, rfl, by omega, fun h => absurd h (by omega), ?_⟩
          · show [some (V.int ((m : Int).fdiv 26)), some (V.str (sg c2 ++ z))] = _
            rw [e2]
          · rw [← hkn, hc2]
            unfold knStep
            rw [if_pos (by omega), if_neg (by omega)]
      · have hle : m < 26 := by
          have : ¬ ((m : Int) > 25) := fun z => hgt (decide_eq_true z)
          omega
        refine ⟨.str z, rfl, ?_⟩
        rw [← hkn] at q
        unfold knStep at q
        rw [if_pos hle] at q
        exact q
end
end Pk
namespace Pk
set_option autoImplicit false
set_option maxRecDepth 100000
set_option maxHeartbeats 4000000
open PySem PySem.Spec PyProof.Rows L2
theorem sc_Walk_add : FnScope ["self", "pair", "came", "stand", "stands", "some", "few"] ["self", "pair", "came"] d_Walk_add.scope := ⟨rfl, rfl, rfl, by decide +kernel, rfl, by decide +kernel, by decide +kernel⟩
/-! ### the walk's object -/
def pkp (e : PairS) : NestedKey := .tup [.num (e.1 : Int), tupN e.2]
theorem nums_inj : ∀ {xs ys : List Nat}, (xs.map fun n : Nat => NestedKey.num (n : Int)) = ys.map (fun n : Nat => NestedKey.num (n : Int)) → xs = ys
  | [], [], _ => rfl
  | [], _ :: _, h => by simp at h
  | _ :: _, [], h => by simp at h
  | x :: xs, y :: ys, h => by
    simp only [List.map_cons, List.cons.injEq, NestedKey.num.injEq] at h
    rw [Int.ofNat.inj h.1, nums_inj h.2]
theorem pkp_inj {a b : PairS} (h : pkp a = pkp b) : a = b := by
  obtain ⟨a1, a2⟩ := a
  obtain ⟨b1, b2⟩ := b
  simp only [pkp, NestedKey.tup.injEq, List.cons.injEq, NestedKey.num.injEq] at h
  rw [Int.ofNat.inj h.1, nums_inj h.2.1]
theorem depth_nums : ∀ xs : List Nat, NestedKey.depthAll (xs.map fun n : Nat => NestedKey.num (n : Int)) = 0
  | [] => rfl
  | x :: xs => by
    show max 0 (NestedKey.depthAll _) = 0
    rw [depth_nums xs] <;> rfl
theorem pkp_depth (e : PairS) : (pkp e).depth ≤ 8 := by
  show max 0 (max (NestedKey.depthAll (e.2.map fun n : Nat => NestedKey.num (n : Int)) + 1) 0) + 1 ≤ 8
  rw [depth_nums] <;> decide
theorem mem_pkp {e : PairS} {F : List PairS} : pkp e ∈ F.map pkp ↔ e ∈ F :=
  ⟨fun h => by obtain ⟨x, m, z⟩ := List.mem_map.mp h; exact pkp_inj z ▸ m, List.mem_map_of_mem⟩
/-- the sets that stand at q -/
def stds (F : List PairS) (q : Nat) : List (List Nat) := F.filterMap fun e => if e.1 = q then some e.2 else none
theorem stds_snoc (F : List PairS) (p q : Nat) (S : List Nat) : stds (F ++ [(p, S)]) q = stds F q ++ if p = q then [S] else [] := by
  unfold stds
  rw [List.filterMap_append]
  by_cases h : p = q
  · simp [h]
  · simp [h]
theorem mem_stds {F : List PairS} {q : Nat} {S : List Nat} : S ∈ stds F q ↔ (q, S) ∈ F := by
  unfold stds
  rw [List.mem_filterMap]
  constructor
  · rintro ⟨⟨a, b⟩, m, e⟩
    by_cases h : a = q
    · rw [if_pos h] at e
      cases e
      rw [← h]
      exact m
    · rw [if_neg h] at e; cases e
  · intro m
    exact ⟨(q, S), m, if_pos rfl⟩
theorem stds_len (F : List PairS) (q : Nat) : (stds F q).length ≤ F.length := List.length_filterMap_le _ _
def wflds (f1 f2 : V) (sa ma fp bs cm : Addr) : List (Str × V) := [("first", f1), ("second", f2), ("all_steps", .ref sa), ("all_marks", .ref ma), ("found_pairs", .ref fp), ("by_stand", .ref bs), ("came", .ref cm)]
section
variable (f1 f2 : V) (sa ma fp bs cm : Addr)
theorem wf_first : (wflds f1 f2 sa ma fp bs cm).lookup ("first" : Str) = some f1 := by kernel_rfl
theorem wf_second : (wflds f1 f2 sa ma fp bs cm).lookup ("second" : Str) = some f2 := by kernel_rfl
theorem wf_steps : (wflds f1 f2 sa ma fp bs cm).lookup ("all_steps" : Str) = some (.ref sa) := by kernel_rfl
theorem wf_marks : (wflds f1 f2 sa ma fp bs cm).lookup ("all_marks" : Str) = some (.ref ma) := by kernel_rfl
theorem wf_fp : (wflds f1 f2 sa ma fp bs cm).lookup ("found_pairs" : Str) = some (.ref fp) := by kernel_rfl
theorem wf_bs : (wflds f1 f2 sa ma fp bs cm).lookup ("by_stand" : Str) = some (.ref bs) := by kernel_rfl
theorem wf_cm : (wflds f1 f2 sa ma fp bs cm).lookup ("came" : Str) = some (.ref cm) := by kernel_rfl
theorem wf_add : (wflds f1 f2 sa ma fp bs cm).lookup ("add" : Str) = none := by kernel_rfl
theorem wf_parted : (wflds f1 f2 sa ma fp bs cm).lookup ("parted_at" : Str) = none := by kernel_rfl
theorem wf_parting : (wflds f1 f2 sa ma fp bs cm).lookup ("parting" : Str) = none := by kernel_rfl
theorem wf_trail : (wflds f1 f2 sa ma fp bs cm).lookup ("trail" : Str) = none := by kernel_rfl
theorem wf_web : (wflds f1 f2 sa ma fp bs cm).lookup ("web_by" : Str) = none := by kernel_rfl
end
/-- what came[..] holds for a link -/
def CameV (H0 H : Hp) (F : List PairS) (v : V) : Link → Prop
  | none => v = .non
  | some (j, m, sd, wd) => ∃ (a mk : Addr) (pv : V) (e : PairS), v = .ref a ∧ H a = some (.tup [pv, .ref mk, .str sd, .str wd]) ∧ F[j]? = some e ∧ Dn H pv (pkp e) ∧ H0 mk = some (.lst (m.map V.str))
theorem CameV.mono {H0 H H' : Hp} {F F' : List PairS} {v : V} {c : Link} (h : CameV H0 H F v c) (t : Tps H H') (f : ∀ (j : Nat) (e : PairS), F[j]? = some e → F'[j]? = some e) : CameV H0 H' F' v c := by
  cases c with
  | none => exact h
  | some c =>
    obtain ⟨j, m, sd, wd⟩ := c
    obtain ⟨a, mk, pv, e, e1, e2, e3, e4, e5⟩ := h
    exact ⟨a, mk, pv, e, e1, t _ _ e2, f _ _ e3, e4.mono t, e5⟩
/-- the walk's names -/
structure Wn where
  wk : Addr
  fp : Addr
  bs : Addr
  cm : Addr
  f1 : V
  f2 : V
  sa : Addr
  ma : Addr
structure WSL (P : Program) (w : World) (K : PySem.W.Frag) (H0 H : Hp) (n : Wn) (F : List PairS) (cs : List Link) (L : List (Nat × Addr)) : Prop where
  same : Same H0 H
  ob : ∃ dx, H n.wk = some (.ins (He.ga K "Walk") dx (wflds n.f1 n.f2 n.sa n.ma n.fp n.bs n.cm))
  new : H0 n.fp = none ∧ H0 n.bs = none ∧ H0 n.cm = none
  fps : Lk H n.fp (F.map pkp)
  bys : H n.bs = some (.dK (L.map fun x => ((Sum.inl (x.1 : Int) : Key), V.ref x.2)))
  ndq : (L.map (·.1)).Nodup
  nda : (L.map (·.2)).Nodup
  lst : ∀ x ∈ L, H0 x.2 = none ∧ Lk H x.2 ((stds F x.1).map tupN) ∧ x.2 ≠ n.fp
  none_ : ∀ q, q ∉ L.map (·.1) → stds F q = []
  cms : ∃ xs : List NEnt, H n.cm = some (DN P w n.cm xs) ∧ (∀ x ∈ xs, Dn H (.ref x.2.1) x.1) ∧ xs.map (·.1) = F.map pkp ∧ ∀ (k : Nat) (x : NEnt), xs[k]? = some x → plainV x.2.2 = true ∧ ∃ c : Link, cs[k]? = some c ∧ CameV H0 H F x.2.2 c
  len : F.length = cs.length
  nodup : F.Nodup
  small : ∀ e ∈ F, e.2.length ≤ 100
theorem WSL.keep {P : Program} {w : World} {K : PySem.W.Frag} {H0 H H' : Hp} {n : Wn} {F : List PairS} {cs : List Link} {L : List (Nat × Addr)} (S : WSL P w K H0 H n F cs L) (s : Same H H') : WSL P w K H0 H' n F cs L where
  same := S.same.trans s
  ob := let ⟨dx, e⟩ := S.ob; ⟨dx, s _ _ e⟩
  new := S.new
  fps := let ⟨vs, e, d⟩ := S.fps; ⟨vs, s _ _ e, d.mono (Same.tps s)⟩
  bys := s _ _ S.bys
  ndq := S.ndq
  nda := S.nda
  lst := fun x hx => let ⟨a, ⟨vs, e, d⟩, c⟩ := S.lst x hx; ⟨a, ⟨vs, s _ _ e, d.mono (Same.tps s)⟩, c⟩
  none_ := S.none_
  cms := let ⟨xs, e, k, f, g⟩ := S.cms; ⟨xs, s _ _ e, fun x hx => (k x hx).mono (Same.tps s), f, fun k x h => let ⟨a, c, b, d⟩ := g k x h; ⟨a, c, b, d.mono (Same.tps s) fun _ _ z => z⟩⟩
  len := S.len
  nodup := S.nodup
  small := S.small
theorem lk_tupN {H : Hp} {b : Addr} {Ss : List (List Nat)} {vs : List V} {i : Nat} {x : V} (d : DnAll H vs (Ss.map tupN)) (h : vs[i]? = some x) : ∃ S, Ss[i]? = some S ∧ Dn H x (tupN S) := by
  obtain ⟨k, e, dk⟩ := d.getV h
  rw [List.getElem?_map] at e
  cases e2 : Ss[i]? with
  | none => rw [e2] at e; cases e
  | some q =>
    rw [e2] at e
    cases e
    exact ⟨q, rfl, dk⟩
/-- the dict of the walk's lists -/
def bsK (L : List (Nat × Addr)) : List (Key × V) := L.map fun x => ((Sum.inl (x.1 : Int) : Key), V.ref x.2)
theorem valV_bs_none {L : List (Nat × Addr)} {q : Nat} (h : valV (bsK L) (Sum.inl (q : Int)) = none) : q ∉ L.map (·.1) := by
  unfold valV bsK at h
  intro hq
  obtain ⟨x, hx, e⟩ := List.mem_map.mp hq
  rw [Option.map_eq_none_iff, List.find?_eq_none] at h
  have := h _ (List.mem_map_of_mem (f := fun x : Nat × Addr => ((Sum.inl (x.1 : Int) : Key), V.ref x.2)) hx)
  exact this (decide_eq_true (by rw [← e]))
theorem valV_bs_some {L : List (Nat × Addr)} {q : Nat} {v : V} (h : valV (bsK L) (Sum.inl (q : Int)) = some v) : ∃ b, v = .ref b ∧ (q, b) ∈ L := by
  unfold valV bsK at h
  rw [Option.map_eq_some_iff] at h
  obtain ⟨kv, h1, h2⟩ := h
  have hm := List.mem_of_find?_eq_some h1
  have hp := List.find?_some h1
  obtain ⟨x, hx, e⟩ := List.mem_map.mp hm
  rw [← e] at hp h2
  have e2 : x.1 = q := Int.ofNat.inj (Sum.inl.inj (of_decide_eq_true hp))
  exact ⟨x.2, h2.symm, e2 ▸ hx⟩
theorem snd_one : ∀ {L : List (Nat × Addr)}, (L.map (·.2)).Nodup → ∀ {x y : Nat × Addr}, x ∈ L → y ∈ L → x.2 = y.2 → x = y
  | [], _, _, _, h, _, _ => by cases h
  | z :: L, nd, x, y, hx, hy, e => by
    rw [List.map_cons, List.nodup_cons] at nd
    rcases List.mem_cons.mp hx with e1 | h1 <;> rcases List.mem_cons.mp hy with e2 | h2
    · rw [e1, e2]
    · exact absurd (List.mem_map.mpr ⟨y, h2, by rw [← e, e1]⟩) nd.1
    · exact absurd (List.mem_map.mpr ⟨x, h1, by rw [e, e2]⟩) nd.1
    · exact snd_one nd.2 h1 h2 e
theorem fst_one : ∀ {L : List (Nat × Addr)}, (L.map (·.1)).Nodup → ∀ {x y : Nat × Addr}, x ∈ L → y ∈ L → x.1 = y.1 → x = y
  | [], _, _, _, h, _, _ => by cases h
  | z :: L, nd, x, y, hx, hy, e => by
    rw [List.map_cons, List.nodup_cons] at nd
    rcases List.mem_cons.mp hx with e1 | h1 <;> rcases List.mem_cons.mp hy with e2 | h2
    · rw [e1, e2]
    · exact absurd (List.mem_map.mpr ⟨y, h2, by rw [← e, e1]⟩) nd.1
    · exact absurd (List.mem_map.mpr ⟨x, h1, by rw [e, e2]⟩) nd.1
    · exact fst_one nd.2 h1 h2 e
theorem Lk.mono {H H' : Hp} {a : Addr} {ks : List NestedKey} (l : Lk H a ks) (t : Tps H H') (e : H' a = H a) : Lk H' a ks := by
  obtain ⟨vs, h, d⟩ := l
  exact ⟨vs, e.trans h, d.mono t⟩
section
variable {P : Program} {w : World} {K : PySem.W.Frag} {H0 H : Hp} {n : Wn} {F : List PairS} {cs : List Link} {L : List (Nat × Addr)}
/-- a new stand -/
theorem WSL.stand (S : WSL P w K H0 H n F cs L) {q : Nat} {e : Addr} {H1 : Hp} (s : Same H H1) (ne : H e = none) (he : H1 e = some (.lst [])) (hq : q ∉ L.map (·.1)) :
    WSL P w K H0 (upd H1 n.bs (.dK (bsK (L ++ [(q, e)])))) n F cs (L ++ [(q, e)]) ∧ Tps H (upd H1 n.bs (.dK (bsK (L ++ [(q, e)])))) := by
  have S1 := S.keep s
  have t1 : Tps H1 (upd H1 n.bs (.dK (bsK (L ++ [(q, e)])))) := Tps.mut S1.bys (by intro xs z; cases z)
  obtain ⟨dx, hob⟩ := S1.ob
  have n1 : n.wk ≠ n.bs := ne_of hob S1.bys (by intro z; cases z)
  obtain ⟨fv, hfp, dfp⟩ := S1.fps
  have n2 : n.fp ≠ n.bs := ne_of hfp S1.bys (by intro z; cases z)
  obtain ⟨xs, hcm, ck, cf, cg⟩ := S1.cms
  have n3 : n.cm ≠ n.bs := ne_of hcm S1.bys (by intro z; cases z)
  have n4 : e ≠ n.bs := ne_of he S1.bys (by intro z; cases z)
  have s0 : H0 e = none := S.same.free ne
  refine ⟨?_, (Same.tps s).trans t1⟩
  refine ⟨But.same S.new.2.1 S1.same But.upd, ⟨dx, by rw [upd_ne n1]; exact hob⟩, S.new, ⟨fv, by rw [upd_ne n2]; exact hfp, dfp.mono t1⟩, upd_same, ?_, ?_, ?_, ?_, ⟨xs, by rw [upd_ne n3]; exact hcm, fun x hx => (ck x hx).mono t1, cf, fun k x h => ?_⟩, S.len, S.nodup, S.small⟩
  · rw [List.map_append]
    refine List.nodup_append.mpr ⟨S.ndq, by simp, fun a ha b hb z => ?_⟩
    rw [List.mem_singleton.mp hb] at z
    have z : a = q := z
    exact hq (z ▸ ha)
  · rw [List.map_append]
    refine List.nodup_append.mpr ⟨S.nda, by simp, fun a ha b hb z => ?_⟩
    rw [List.mem_singleton.mp hb] at z
    obtain ⟨x, hx, ex⟩ := List.mem_map.mp ha
    obtain ⟨_, ⟨vs, ev, _⟩, _⟩ := S.lst x hx
    rw [ex, z, ne] at ev
    cases ev
  · intro x hx
    rcases List.mem_append.mp hx with hx | hx
    · obtain ⟨a, l, c⟩ := S1.lst x hx
      obtain ⟨vs, ev, _⟩ := id l
      exact ⟨a, l.mono t1 (upd_ne (ne_of ev S1.bys (by intro z; cases z))), c⟩
    · rw [List.mem_singleton.mp hx]
      refine ⟨s0, ⟨[], by rw [upd_ne n4]; exact he, ?_⟩, ?_⟩
      · rw [S.none_ q hq]
        exact .nil
      · intro z
        obtain ⟨fv0, hfp0, _⟩ := S.fps
        have z : e = n.fp := z
        rw [← z, ne] at hfp0
        cases hfp0
  · intro q' h
    exact S.none_ q' fun z => h (by rw [List.map_append]; exact List.mem_append_left _ z)
  · obtain ⟨a, c, b, d⟩ := cg k x h
    exact ⟨a, c, b, d.mono t1 fun _ _ z => z⟩
/-- a new pair -/
theorem WSL.pair (S : WSL P w K H0 H n F cs L) {q : Nat} {b pa : Addr} {T : List Nat} {sv cv : V} {c : Link} (hb : (q, b) ∈ L) (hnew : (q, T) ∉ F) (hT : T.length ≤ 100) (hp : Dn H (.ref pa) (pkp (q, T))) (hs : Dn H sv (tupN T)) (hc : CameV H0 H F cv c) (pc : plainV cv = true)
    {bv fv : List V} (eb : H b = some (.lst bv)) (ef : H n.fp = some (.lst fv)) {xs : List NEnt} (ex : H n.cm = some (DN P w n.cm xs)) (hxk : xs.map (·.1) = F.map pkp) (hxd : ∀ x ∈ xs, Dn H (.ref x.2.1) x.1) (cg : ∀ (k : Nat) (x : NEnt), xs[k]? = some x → plainV x.2.2 = true ∧ ∃ c : Link, cs[k]? = some c ∧ CameV H0 H F x.2.2 c) :
    WSL P w K H0 (upd (upd (upd H b (.lst (bv ++ [sv]))) n.fp (.lst (fv ++ [.ref pa]))) n.cm (DN P w n.cm (putN xs (pkp (q, T)) pa cv))) n (F ++ [(q, T)]) (cs ++ [c]) L ∧
    Tps H (upd (upd (upd H b (.lst (bv ++ [sv]))) n.fp (.lst (fv ++ [.ref pa]))) n.cm (DN P w n.cm (putN xs (pkp (q, T)) pa cv))) := by
  obtain ⟨H3, e3⟩ : ∃ H3, H3 = upd (upd (upd H b (.lst (bv ++ [sv]))) n.fp (.lst (fv ++ [.ref pa]))) n.cm (DN P w n.cm (putN xs (pkp (q, T)) pa cv)) := ⟨_, rfl⟩
  rw [← e3]
  obtain ⟨dx, hob⟩ := S.ob
  obtain ⟨nb0, lkb, nbf⟩ := S.lst _ hb
  obtain ⟨bv2, eb2, db⟩ := lkb
  have ebv : bv2 = bv := HO.lst.inj (Option.some.inj (eb2.symm.trans eb))
  subst ebv
  obtain ⟨fv2, ef2, df⟩ := S.fps
  have efv : fv2 = fv := HO.lst.inj (Option.some.inj (ef2.symm.trans ef))
  subst efv
  have nbf : b ≠ n.fp := nbf
  have ncb : n.cm ≠ b := ne_of ex eb (by intro z; cases z)
  have ncf : n.cm ≠ n.fp := ne_of ex ef (by intro z; cases z)
  have at3 : ∀ a, a ≠ b → a ≠ n.fp → a ≠ n.cm → H3 a = H a := fun a h1 h2 h3 => by rw [e3, upd_ne h3, upd_ne h2, upd_ne h1]
  have atb : H3 b = some (.lst (bv2 ++ [sv])) := by rw [e3, upd_ne ncb.symm, upd_ne nbf, upd_same]
  have atf : H3 n.fp = some (.lst (fv2 ++ [.ref pa])) := by rw [e3, upd_ne ncf.symm, upd_same]
  have atc : H3 n.cm = some (DN P w n.cm (putN xs (pkp (q, T)) pa cv)) := by rw [e3, upd_same]
  have t3 : Tps H H3 := fun a ys h => by
    rw [at3 a (ne_of h eb (by intro z; cases z)) (ne_of h ef (by intro z; cases z)) (ne_of h ex (by intro z; cases z))]
    exact h
  have keyn : pkp (q, T) ∉ xs.map (·.1) := by
    rw [hxk]
    exact fun z => hnew (mem_pkp.mp z)
  have hF : ∀ (j : Nat) (e : PairS), F[j]? = some e → (F ++ [(q, T)])[j]? = some e := fun j e h => get_snoc h
  have hxl : xs.length = F.length := by rw [← List.length_map (f := (·.1)), hxk, List.length_map]
  have plc : putN xs (pkp (q, T)) pa cv = xs ++ [(pkp (q, T), pa, cv)] := putN_new keyn
  refine ⟨⟨?_, ⟨dx, ?_⟩, S.new, ⟨_, atf, ?_⟩, ?_, S.ndq, S.nda, ?_, ?_, ⟨putN xs (pkp (q, T)) pa cv, atc, ?_, ?_, ?_⟩, ?_, ?_, ?_⟩, t3⟩
  · intro a o h
    have h2 := S.same a o h
    rw [at3 a (ne_of_none h nb0) (ne_of_none h S.new.1) (ne_of_none h S.new.2.2)]
    exact h2
  · rw [at3 n.wk (ne_of hob eb (by intro z; cases z)) (ne_of hob ef (by intro z; cases z)) (ne_of hob ex (by intro z; cases z))]
    exact hob
  · rw [List.map_append]
    exact (df.mono t3).append (.cons (hp.mono t3) .nil)
  · rw [at3 n.bs (ne_of S.bys eb (by intro z; cases z)) (ne_of S.bys ef (by intro z; cases z)) (ne_of S.bys ex (by intro z; cases z))]
    exact S.bys
  · intro x hx
    obtain ⟨a, l, c⟩ := S.lst x hx
    refine ⟨a, ?_, c⟩
    rw [stds_snoc]
    by_cases e : x.2 = b
    · have hxq : x = (q, b) := snd_one S.nda hx hb e
      rw [hxq]
      refine ⟨_, atb, ?_⟩
      rw [if_pos rfl, List.map_append]
      exact (db.mono t3).append (.cons (hs.mono t3) .nil)
    · have hxq : q ≠ x.1 := fun z => e (congrArg Prod.snd (fst_one S.ndq hx hb z.symm))
      rw [if_neg hxq, List.append_nil]
      obtain ⟨vs, ev, _⟩ := id l
      exact l.mono t3 (at3 x.2 e c (ne_of ev ex (by intro z; cases z)))
  · intro q' h
    rw [stds_snoc, S.none_ q' h]
    have : q ≠ q' := fun z => h (z ▸ List.mem_map_of_mem hb)
    rw [if_neg this] <;> rfl
  · intro x hx
    rw [plc] at hx
    rcases List.mem_append.mp hx with hx | hx
    · exact (hxd x hx).mono t3
    · rw [List.mem_singleton.mp hx]
      exact hp.mono t3
  · rw [plc, List.map_append, List.map_append, hxk] <;> rfl
  · intro k x h
    rw [plc] at h
    by_cases hk : k < xs.length
    · rw [List.getElem?_append_left hk] at h
      obtain ⟨p1, c', e1, e2⟩ := cg k x h
      exact ⟨p1, c', get_snoc e1, e2.mono t3 hF⟩
    · rw [List.getElem?_append_right (by omega)] at h
      have hk2 : k - xs.length = 0 := by
        have := (List.getElem?_eq_some_iff.mp h).1
        simp at this
        omega
      rw [hk2] at h
      cases h
      have : k = cs.length := by have := S.len; omega
      rw [this]
      exact ⟨pc, c, by simp, hc.mono t3 hF⟩
  · rw [List.length_append, List.length_append, S.len] <;> rfl
  · refine List.nodup_append.mpr ⟨S.nodup, by simp, fun a ha b hb z => ?_⟩
    rw [List.mem_singleton.mp hb] at z
    exact hnew (z ▸ ha)
  · intro e he
    rcases List.mem_append.mp he with he | he
    · exact S.small e he
    · rw [List.mem_singleton.mp he]
      exact hT
end
end Pk
namespace Pk
set_option autoImplicit false
set_option maxRecDepth 100000
set_option maxHeartbeats 4000000
open PySem PySem.Spec PyProof.Rows L2
section
variable {X : Cx} {o e f : Expr} {td ty tx : TE} {apos cpos : Pos}
def tSetD (td ty tx : TE) : TE := fun σ H Q => td σ H fun x H1 => ∃ a, x = .ref a ∧ IsD H1 a ∧ ty σ H1 fun y H2 => tx σ H2 fun z H3 => ∃ (kvs : List (Key × V)) (k : Key), H3 a = some (.dK kvs) ∧ y = kV k ∧ kvs.length < sizeLine ∧
  ∀ (v : V) (H4 : Hp), ((valV kvs k = some v ∧ H4 = H3) ∨ (valV kvs k = none ∧ v = z ∧ H4 = upd H3 a (.dK (putK kvs k z)))) → Q v H4
theorem pe_setd (ho : PE X o td) (he : PE X e ty) (hf : PE X f tx) (m : M2 X o "setdefault" apos e f cpos) : PE X (.Call (.Attribute o "setdefault" apos) [e, f] [] cpos) (tSetD td ty tx) :=
  PE.imp (pe_dsetd (PE.mc ho) (PE.mc he) (PE.mc hf) m) fun σ H Q q => ⟨_, q, fun x H1 ⟨a, e, d, q2⟩ => ⟨a, e, d, _, q2, fun y H2 q3 => ⟨_, q3, fun z H3 ⟨kvs, k, h1, h2, h3, h⟩ => ⟨kvs, k, h1, h2, h3, fun v hv => h v H3 (.inl ⟨hv, rfl⟩), fun hv => h z _ (.inr ⟨hv, rfl, rfl⟩)⟩⟩⟩⟩
end
/-- the walk stands -/
def WS (P : Program) (w : World) (K : PySem.W.Frag) (H0 H : Hp) (n : Wn) (F : List PairS) (cs : List Link) : Prop := ∃ L, WSL P w K H0 H n F cs L ∧ L.length ≤ F.length
/-- a smaller set stands at q already -/
def Under (F : List PairS) (q : Nat) (T : List Nat) : Prop := ∃ S, (q, S) ∈ F ∧ ∀ x ∈ S, x ∈ T
section
variable {P : Program} {w : World} {K : PySem.W.Frag} {mg : Str → Option Value} {base : Heap}
def sqAdd (P : Program) (w : World) (K : PySem.W.Frag) : Sq := fun vs H Q => ∃ (H0 : Hp) (n : Wn) (F : List PairS) (cs : List Link) (pa : Addr) (q : Nat) (T : List Nat) (cv : V) (c : Link), vs = [.ref n.wk, .ref pa, cv] ∧ WS P w K H0 H n F cs ∧ Dn H (.ref pa) (pkp (q, T)) ∧ T.length ≤ 100 ∧ CameV H0 H F cv c ∧ plainV cv = true ∧ F.length ≤ 900 ∧
  ∀ (F' : List PairS) (cs' : List Link) (H' : Hp), Tps H H' → WS P w K H0 H' n F' cs' → ((Under F q T ∧ F' = F ∧ cs' = cs) ∨ (¬ Under F q T ∧ F' = F ++ [(q, T)] ∧ cs' = cs ++ [c])) → Q .non H'
theorem ok_add (W : Wd K mg) : Ml P w K mg base (He.ga K "Walk") "add" ["self", "pair", "came"] 2 (sqAdd P w K) := by
  refine mk_ml W 19 55 (d := d_Walk_add) rfl rfl rfl rfl sc_Walk_add (fun _ _ _ _ _ _ us hl => match us, hl with | [_, _, _], _ => rfl) (fun vs H Q h => ?_) (fun f cdv A outer s H vs Q E hr h => ?_)
  · obtain ⟨H0, n, F, cs, pa, q, T, cv, c, rfl, _⟩ := h
    rfl
  · obtain ⟨H0, n, F, cs, pa, q, T, cv, c, rfl, ⟨L, S, hL⟩, hp, hT, hc, pc, hF, fin⟩ := h
    have hu := hr.units
    have c_is_among : Cl P w K mg base "is_among" ["few", "many"] 1 sqIsAmong := ok_is_among W
    refine ⟨_, (pss_cons (ps_asg (pv 1) (pg_tup rfl (pgs_cons (pg_name (i := 3) sc_Walk_add.nd rfl (Or.inl rfl)) (pgs_cons (pg_name (i := 4) sc_Walk_add.nd rfl (Or.inr rfl)) pgs_nil))))
      (pss_cons (ps_set (i := 5) sc_Walk_add.nd rfl (Or.inl rfl) (pe_setd (pe_fld (pv 0) rfl) (pv 3) (pe_lstN pa_nil) ⟨rfl, rfl, rfl, rfl⟩))
      (pss_one (ps_if (pt_not (pt_val (pe_callB (cr_any rfl) (by rfl) (W.free 39) (by decide +kernel) (pa_cons (pe_lc (own := [("few", 6)]) rfl sc_Walk_add.nd (pi_list (pv 5)) (blkOk_by (own := [("few", 6)]) (N := ["self", "pair", "came", "stand", "stands", "some", "few"]) (sc := d_Walk_add.scope) (by decide +kernel)) (fun _ _ _ _ _ => (pg_name (i := 6) sc_Walk_add.nd rfl (Or.inl rfl))) (fun _ _ _ _ _ => pts_nil) (fun _ _ _ _ _ => (pe_fn c_is_among (hr.mono (by omega)) (by rfl) (pa_cons (pv 6) (pa_cons (pv 4) pa_nil))))) pa_nil))))
        (pss_cons (ps_expr (pe_bm PySem.F.plainAttrs_list PySem.F.slot_list_append PySem.F.type_list_append mt_append (pv 5) (pa_cons (pv 4) pa_nil)))
        (pss_cons (ps_expr (pe_bm PySem.F.plainAttrs_list PySem.F.slot_list_append PySem.F.type_list_append mt_append (pe_fld (pv 0) rfl) (pa_cons (pv 1) pa_nil)))
        (pss_one (ps_dputN hu (pe_fld (pv 0) rfl) (pv 1) (pv 2) rfl))))
        pss_nil)))), ?_⟩
    obtain ⟨a, us, ea, epa, du⟩ := hp.tup_inv
    cases ea
    obtain ⟨v1, r1, rfl, d1, du⟩ := du.cons_inv
    obtain ⟨tv, r2, rfl, dT, du⟩ := du.cons_inv
    rw [du.nil_inv, d1.num_inv] at epa
    obtain ⟨dx, hob⟩ := S.ob
    refine ⟨.ref pa, rfl, pa, _, rfl, .inl (.inl epa), rfl, vn q, _, rfl, tv, [], rfl, rfl, ?_⟩
    have hLl : (bsK L).length < sizeLine := by
      unfold bsK
      rw [List.length_map]
      exact small_lt (m := 1000) (by omega) (by decide)
    refine ⟨.ref n.wk, rfl, n.wk, _, dx, _, _, rfl, hob, W.cls 53, W.noat 65, wf_bs _ _ _ _ _ _ _, n.bs, rfl, .inl ⟨_, .inl S.bys⟩, vn q, rfl, Nat.zero_le _, fun e H1 s1 ne he => ⟨bsK L, Sum.inl (q : Int), s1 _ _ S.bys, rfl, hLl, fun v H2 hv => ?_⟩⟩
    obtain ⟨b, L1, rfl, S2, hb, t2, hL1⟩ : ∃ (b : Addr) (L1 : List (Nat × Addr)), v = .ref b ∧ WSL P w K H0 H2 n F cs L1 ∧ (q, b) ∈ L1 ∧ Tps H H2 ∧ (L1.length ≤ F.length ∨ (L1.length ≤ F.length + 1 ∧ stds F q = [])) := by
      rcases hv with ⟨hv, rfl⟩ | ⟨hv, rfl, rfl⟩
      · obtain ⟨b, rfl, hb⟩ := valV_bs_some hv
        exact ⟨b, L, rfl, S.keep s1, hb, Same.tps s1, .inl hL⟩
      · have hq := valV_bs_none hv
        have ep : putK (bsK L) (Sum.inl (q : Int)) (.ref e) = bsK (L ++ [(q, e)]) := by
          rw [putK_new _ hv]
          unfold bsK
          rw [List.map_append] <;> rfl
        rw [ep]
        obtain ⟨S2, t2⟩ := S.stand s1 ne he hq
        exact ⟨e, _, rfl, S2, by simp, t2, .inr ⟨by rw [List.length_append]; simp; omega, S.none_ q hq⟩⟩
    obtain ⟨_, ⟨bv, eb, db⟩, _⟩ := S2.lst _ hb
    have hbl : bv.length = (stds F q).length := by rw [db.length, List.length_map]
    have hsl := stds_len F q
    refine ⟨.ref b, rfl, b, rfl, ⟨_, .inl (.inl eb)⟩, fun D nD => lc_list (K := K) (a := b) (xs := bv) (fun i Hx => Same H2 Hx ∧ Hx D = some (.lst ((((stds F q).take i).map fun S' => S'.all fun x => decide (x ∈ T)).map V.bl))) ⟨Same.new nD, upd_same⟩
      (fun i Hx _ ⟨sx, _⟩ => .inl (.inl (sx _ _ eb))) ?_ ?_⟩
    · rintro i x Hx hi ⟨sx, eD⟩
      obtain ⟨S', eS, dS⟩ := lk_tupN (H := H2) (b := b) db hi
      have hS' : S'.length ≤ 100 := S2.small _ (mem_stds.mp (List.mem_of_getElem? eS))
      refine ⟨rfl, lc_yes ?_⟩
      refine ⟨x, rfl, tv, rfl, x, tv, S', T, rfl, dS.mono (Same.tps sx), (dT.mono t2).mono (Same.tps sx), hS', fun H3 s3 => ⟨_, s3 _ _ eD, ?_, But.same nD (Same.trans sx s3) But.upd, ?_⟩⟩
      · rw [List.length_map, List.length_map, List.length_take]
        exact small_lt (m := 1000) (by omega) (by decide)
      · rw [upd_same, take_snoc eS, List.map_append, List.map_append] <;> rfl
    · rintro Hx ⟨sx, eD⟩
      rw [hbl, List.take_length] at eD
      have S3 := S2.keep sx
      have t3 : Tps H Hx := t2.trans (Same.tps sx)
      refine ⟨D, _, rfl, .inl (.inl eD), _, rfl, ?_⟩
      have hun : ((stds F q).map fun S' => S'.all fun x => decide (x ∈ T)).any id = true ↔ Under F q T := by
        rw [List.any_eq_true]
        constructor
        · rintro ⟨b', hb', e'⟩
          obtain ⟨S', hS', rfl⟩ := List.mem_map.mp hb'
          refine ⟨S', mem_stds.mp hS', fun x hx => ?_⟩
          have := List.all_eq_true.mp e' x hx
          exact of_decide_eq_true this
        · rintro ⟨S', hS', h⟩
          exact ⟨_, List.mem_map_of_mem (f := fun S' : List Nat => S'.all fun x => decide (x ∈ T)) (mem_stds.mpr hS'), List.all_eq_true.mpr fun x hx => decide_eq_true (h x hx)⟩
      cases hany : ((stds F q).map fun S' => S'.all fun x => decide (x ∈ T)).any id with
      | true =>
        refine iteF ?_
        have hU := hun.mp hany
        refine fin F cs Hx t3 ⟨L1, S3, ?_⟩ (.inl ⟨hU, rfl, rfl⟩)
        rcases hL1 with h | ⟨_, h⟩
        · exact h
        · rw [h] at hany
          cases hany
      | false =>
        refine iteT ?_
        have hU : ¬ Under F q T := fun z => by
          rw [hun.mpr z] at hany
          cases hany
        have hnew : (q, T) ∉ F := fun z => hU ⟨T, z, fun x h => h⟩
        have eb3 := sx _ _ eb
        obtain ⟨fv, ef3, df3⟩ := S3.fps
        obtain ⟨xs, ex3, xd3, xk3, xg3⟩ := S3.cms
        have hfl : fv.length = F.length := by rw [df3.length, List.length_map]
        have hxl : xs.length = F.length := by rw [← List.length_map (f := (·.1)), xk3, List.length_map]
        obtain ⟨S4, t4⟩ := S3.pair (sv := tv) hb hnew hT (hp.mono t3) (dT.mono t3) (hc.mono t3 fun _ _ z => z) pc eb3 ef3 ex3 xk3 xd3 xg3
        obtain ⟨dx3, hob3⟩ := S3.ob
        have nbf : b ≠ n.fp := (S3.lst _ hb).2.2
        have hob4 := (upd_ne (H := Hx) (o := .lst (bv ++ [tv])) (ne_of hob3 eb3 (by intro z; cases z))).trans hob3
        have ef4 := (upd_ne (H := Hx) (o := .lst (bv ++ [tv])) nbf.symm).trans ef3
        have hob5 := (upd_ne (H := upd Hx b (.lst (bv ++ [tv]))) (o := .lst (fv ++ [.ref pa])) (ne_of hob4 ef4 (by intro z; cases z))).trans hob4
        refine ⟨.ref b, rfl, .inl ⟨rfl, _, .inl (.inl eb3)⟩, tv, rfl, b, bv, tv, rfl, rfl, eb3, small_lt (m := 1000) (by omega) (by decide), ?_⟩
        refine ⟨.ref n.wk, rfl, n.wk, _, dx3, _, _, rfl, hob4, W.cls 53, W.noat 64, wf_fp _ _ _ _ _ _ _, .inl ⟨rfl, _, .inl (.inl ef4)⟩, .ref pa, rfl, n.fp, fv, .ref pa, rfl, rfl, ef4, small_lt (m := 1000) (by omega) (by decide), ?_⟩
        have tb : Tps Hx (upd Hx b (.lst (bv ++ [tv]))) := Tps.mut eb3 (by intro xs z; cases z)
        have tf : Tps (upd Hx b (.lst (bv ++ [tv]))) (upd (upd Hx b (.lst (bv ++ [tv]))) n.fp (.lst (fv ++ [.ref pa]))) := Tps.mut ef4 (by intro xs z; cases z)
        refine ⟨cv, rfl, .ref n.wk, rfl, n.wk, _, dx3, _, _, rfl, hob5, W.cls 53, W.noat 66, wf_cm _ _ _ _ _ _ _, .ref pa, rfl, n.cm, xs, pkp (q, T), pa, rfl, rfl, ⟨?_, fun x hx => ⟨((xd3 x hx).mono tb).mono tf, ?_⟩, ?_, ?_, by omega⟩, ((hp.mono t3).mono tb).mono tf, pkp_depth _, pc, by omega, ?_⟩
        · rw [upd_ne (ne_of ex3 ef3 (by intro z; cases z)), upd_ne (ne_of ex3 eb3 (by intro z; cases z))]
          exact ex3
        · have : x.1 ∈ F.map pkp := xk3 ▸ List.mem_map_of_mem hx
          obtain ⟨y, _, e⟩ := List.mem_map.mp this
          rw [← e]
          exact pkp_depth y
        · rw [xk3]
          exact List.Pairwise.map pkp (fun a b h e => h (pkp_inj e)) S3.nodup
        · intro x hx
          obtain ⟨i, hi, e⟩ := List.getElem_of_mem hx
          exact (xg3 i x (by rw [List.getElem?_eq_getElem hi, e])).1
        · refine fin _ _ _ (t3.trans t4) ⟨L1, S4, ?_⟩ (.inr ⟨hU, rfl, rfl⟩)
          rw [List.length_append, List.length_singleton]
          rcases hL1 with h | ⟨h, _⟩ <;> omega
end
end Pk
namespace Pk
set_option autoImplicit false
set_option maxRecDepth 100000
set_option maxHeartbeats 4000000
open PySem PySem.Spec PyProof.Rows L2
theorem sc_Walk_init : FnScope ["self", "one", "other"] ["self", "one", "other"] d_Walk_init.scope := ⟨rfl, rfl, rfl, by decide +kernel, rfl, by decide +kernel, by decide +kernel⟩
theorem wf_build (f1 f2 : V) (sa ma fp bs cm : Addr) : putF "came" (.ref cm) (putF "by_stand" (.ref bs) (putF "found_pairs" (.ref fp) (putF "all_marks" (.ref ma) (putF "all_steps" (.ref sa) (putF "second" f2 (putF "first" f1 [])))))) = wflds f1 f2 sa ma fp bs cm := by kernel_rfl
/-- what stands still while the walk goes -/
structure ST (K : PySem.W.Frag) (H0 : Hp) (n : Wn) (p r : Pat) : Prop where
  one : ∃ mvs, Mach H0 n.f1 p mvs
  two : ∃ mvs, Mach H0 n.f2 r mvs
  steps : Lk H0 n.sa ((askS p r).map skey)
  marks : LT K H0 n.ma (subsF (askM p r))
section
variable {P : Program} {w : World} {K : PySem.W.Frag} {mg : Str → Option Value} {base : Heap}
def sqWInit (P : Program) (w : World) (K : PySem.W.Frag) : Sq := fun vs H Q => ∃ (wk dx : Addr) (v u : V) (p r : Pat), vs = [.ref wk, v, u] ∧ H wk = some (.ins (He.ga K "Walk") dx []) ∧ Dn H v (pkey p) ∧ Dn H u (pkey r) ∧ sz p ≤ 8 ∧ sz r ≤ 8 ∧ okK (pkey p) ∧ okK (pkey r) ∧ (pkey p).depth ≤ 40 ∧ (pkey r).depth ≤ 40 ∧ (askM p r).length ≤ 6 ∧
  ∀ (n : Wn) (H0 H' : Hp), n.wk = wk → Kp [wk] H H0 → ST K H0 n p r → WS P w K H0 H' n [(0, [0])] [none] → Q .non H'
theorem ok_Walk_init (W : Wd K mg) : Il P w K mg base "Walk" ["self", "one", "other"] 19 (sqWInit P w K) := by
  refine mk_il W 18 54 52 (d := d_Walk_init) rfl rfl rfl rfl rfl sc_Walk_init (fun _ _ _ _ _ _ us hl => match us, hl with | [_, _, _], _ => rfl) (fun vs H Q h => ?_) (fun f cdv A outer s H vs Q E hr h => ?_)
  · obtain ⟨wk, dx, v, u, p, r, rfl, _⟩ := h
    rfl
  · obtain ⟨wk, dx, v, u, p, r, rfl, hw, hp, hq, zp, zr, op_, or_, dp, dr, hm, fin⟩ := h
    have hu := hr.units
    have c_machine_of : Cl P w K mg base "machine_of" ["pattern"] 18 sqMachineOf := ok_machine_of W
    have c_asked_steps : Cl P w K mg base "asked_steps" ["one", "other"] 4 sqAskedSteps := ok_asked_steps W
    have c_asked_marks : Cl P w K mg base "asked_marks" ["one", "other"] 4 (sqAskedMarks K) := ok_asked_marks W
    have m_add : Ml P w K mg base (He.ga K "Walk") "add" ["self", "pair", "came"] 2 (sqAdd P w K) := ok_add W
    refine ⟨_, (pss_cons (ps_fld (pv 0) (pe_fn c_machine_of (hr.mono (by omega)) (by rfl) (pa_cons (pv 1) pa_nil)) rfl)
      (pss_cons (ps_fld (pv 0) (pe_fn c_machine_of (hr.mono (by omega)) (by rfl) (pa_cons (pv 2) pa_nil)) rfl)
      (pss_cons (ps_fld (pv 0) (pe_fn c_asked_steps (hr.mono (by omega)) (by rfl) (pa_cons (pv 1) (pa_cons (pv 2) pa_nil))) rfl)
      (pss_cons (ps_fld (pv 0) (pe_fn c_asked_marks (hr.mono (by omega)) (by rfl) (pa_cons (pv 1) (pa_cons (pv 2) pa_nil))) rfl)
      (pss_cons (ps_fld (pv 0) (pe_lstN pa_nil) rfl)
      (pss_cons (ps_fld (pv 0) pe_dnewK rfl)
      (pss_cons (ps_fld (pv 0) pe_dnewN rfl)
      (pss_one (ps_expr (pe_mt (pv 0) (W.cls 53) m_add (hr.mono (by omega)) (pa_cons (pe_tupN (pa_cons (pe_ix ix_key (pe_fld (pv 0) rfl) pe_int (fun _ _ => rfl)) (pa_cons (pe_tupN (pa_cons (pe_ix ix_key (pe_fld (pv 0) rfl) pe_int (fun _ _ => rfl)) pa_nil)) pa_nil))) (pa_cons pe_non pa_nil)))))))))))), ?_⟩
    have tw : ∀ {Ha : Hp} {dx fs} {o : HO}, Ha wk = some (.ins (He.ga K "Walk") dx fs) → Tps Ha (upd Ha wk o) := fun h => Tps.mut h (by intro xs z; cases z)
    have kw : ∀ {Ha : Hp} {o : HO}, Kp [wk] Ha (upd Ha wk o) := Kp.mut (by simp)
    refine ⟨v, rfl, v, p, rfl, hp, zp, op_, dp, fun a1 mv1 H1 s1 M1 => ?_⟩
    have e1 := s1 _ _ hw
    refine ⟨.ref wk, rfl, wk, _, dx, _, rfl, e1, W.cls 53, W.noat 60, by show 0 < 1000; decide, ?_⟩
    have t1 := tw (o := .ins (He.ga K "Walk") dx (putF "first" (.ref a1) [])) e1
    refine ⟨u, rfl, u, r, rfl, (hq.mono (Same.tps s1)).mono t1, zr, or_, dr, fun a2 mv2 H2 s2 M2 => ?_⟩
    have e2 := s2 _ _ upd_same
    refine ⟨.ref wk, rfl, wk, _, dx, _, rfl, e2, W.cls 53, W.noat 61, by show 1 < 1000; decide, ?_⟩
    have t2 := tw (o := .ins (He.ga K "Walk") dx (putF "second" (.ref a2) (putF "first" (.ref a1) []))) e2
    have T2 := (((Same.tps s1).trans t1).trans (Same.tps s2)).trans t2
    refine ⟨v, rfl, u, rfl, v, u, p, r, rfl, hp.mono T2, hq.mono T2, zp, zr, fun sa H3 s3 nsa lsa => ?_⟩
    have e3 := s3 _ _ upd_same
    refine ⟨.ref wk, rfl, wk, _, dx, _, rfl, e3, W.cls 53, W.noat 62, by show 2 < 1000; decide, ?_⟩
    have t3 := tw (o := .ins (He.ga K "Walk") dx (putF "all_steps" (.ref sa) (putF "second" (.ref a2) (putF "first" (.ref a1) [])))) e3
    have T3 := (T2.trans (Same.tps s3)).trans t3
    refine ⟨v, rfl, u, rfl, v, u, p, r, rfl, hp.mono T3, hq.mono T3, zp, zr, hm, fun ma H4 s4 nma lma => ?_⟩
    have e4 := s4 _ _ upd_same
    refine ⟨.ref wk, rfl, wk, _, dx, _, rfl, e4, W.cls 53, W.noat 63, by show 3 < 1000; decide, ?_⟩
    -- the heap that stands still
    obtain ⟨H0, eH0⟩ : ∃ H0 : Hp, H0 = fun b => if b = wk then none else H4 b := ⟨_, rfl⟩
    have H0ne : ∀ b, b ≠ wk → H0 b = H4 b := fun b h => by rw [eH0]; exact if_neg h
    have H0wk : H0 wk = none := by rw [eH0]; exact if_pos rfl
    have K04 : ∀ b o, H4 b = some o → b ≠ wk → H0 b = some o := fun b o h n => by rw [H0ne b n]; exact h
    have k4 : Kp [wk] H H4 := ((((((Kp.of s1).trans kw).trans (Kp.of s2)).trans kw).trans (Kp.of s3)).trans kw).trans (Kp.of s4)
    have kH0 : Kp [wk] H H0 := fun b o h n => K04 b o (k4 b o h n) (by simpa using n)
    have t40 : Tps H4 H0 := fun a xs h => K04 a _ h (ne_of h e4 (by intro z; cases z))
    have nsaw : sa ≠ wk := fun z => by
      obtain ⟨vs, ev, _⟩ := lsa
      rw [z] at ev
      rw [e3] at ev
      cases ev
    have nmaw : ma ≠ wk := fun z => by
      obtain ⟨vs, ev, _⟩ := lma
      rw [z] at ev
      rw [e4] at ev
      cases ev
    have st1 : ∃ mvs, Mach H0 (.ref a1) p mvs := ⟨mv1, (((((M1.mono t1).mono (Same.tps s2)).mono t2).mono (Same.tps s3)).mono t3).mono (Same.tps s4) |>.mono t40⟩
    have st2 : ∃ mvs, Mach H0 (.ref a2) r mvs := ⟨mv2, ((((M2.mono t2).mono (Same.tps s3)).mono t3).mono (Same.tps s4)).mono t40⟩
    have st3 : Lk H0 sa ((askS p r).map skey) := by
      have l1 := lsa.mono (t3.trans ((Same.tps s4).trans t40)) (a := sa) (ks := (askS p r).map skey)
      refine l1 ?_
      obtain ⟨vs, ev, _⟩ := lsa
      rw [H0ne sa nsaw, s4 _ _ (show (upd H3 wk _) sa = _ from (upd_ne nsaw).trans ev), ev]
    have st4 : LT K H0 ma (subsF (askM p r)) := by
      obtain ⟨vs, ev, av⟩ := lma
      refine ⟨vs, K04 _ _ ev nmaw, av.len, fun i v ts h k => ?_⟩
      obtain ⟨b, eb, fb⟩ := av.at_ i v ts h k
      exact ⟨b, eb, K04 _ _ fb (ne_of fb e4 (by intro z; cases z))⟩
    have s04 : ∀ o, Same H0 (upd H4 wk o) := fun o b x h => by
      have hb : b ≠ wk := fun z => by rw [z, H0wk] at h; cases h
      rw [upd_ne hb, ← H0ne b hb]
      exact h
    have s00 : ∀ (Ha : Hp) o, Same H0 Ha → Same H0 (upd Ha wk o) := fun Ha o h => But.same H0wk h But.upd
    refine ⟨Nat.zero_le _, fun fp H5 s5 nfp e5 => ?_⟩
    have ew5 := s5 _ _ upd_same
    refine ⟨.ref wk, rfl, wk, _, dx, _, rfl, ew5, W.cls 53, W.noat 64, by show 4 < 1000; decide, ?_⟩
    have nfw : fp ≠ wk := ne_of e5 ew5 (by intro z; cases z)
    have s05 := Same.trans (s04 _) s5
    have nfp0 : H0 fp = none := (s04 _).free nfp
    intro bs nbs
    have nbw : bs ≠ wk := (ne_of_none upd_same nbs).symm
    have nbf : bs ≠ fp := (ne_of_none ((upd_ne nfw).trans e5) nbs).symm
    have s06 := Same.trans (s00 _ _ s05) (Same.new (o := .dK []) nbs)
    have nbs0 : H0 bs = none := (s00 _ _ s05).free nbs
    refine ⟨.ref wk, rfl, wk, _, dx, _, rfl, (upd_ne nbw.symm).trans upd_same, W.cls 53, W.noat 65, by show 5 < 1000; decide, ?_⟩
    intro cm ncm
    have ncw : cm ≠ wk := (ne_of_none upd_same ncm).symm
    have ncb : cm ≠ bs := (ne_of_none ((upd_ne nbw).trans upd_same) ncm).symm
    have ncf : cm ≠ fp := (ne_of_none ((upd_ne nfw).trans ((upd_ne nbf.symm).trans ((upd_ne nfw).trans e5))) ncm).symm
    have s07 := Same.trans (s00 _ _ s06) (Same.new (o := DN P w cm []) ncm)
    have ncm0 : H0 cm = none := (s00 _ _ s06).free ncm
    refine ⟨.ref wk, rfl, wk, _, dx, _, rfl, (upd_ne ncw.symm).trans upd_same, W.cls 53, W.noat 66, by show 6 < 1000; decide, ?_⟩
    have hob : ∀ Ha : Hp, (upd Ha wk (.ins (He.ga K "Walk") dx (putF "came" (.ref cm) (putF "by_stand" (.ref bs) (putF "found_pairs" (.ref fp) (putF "all_marks" (.ref ma) (putF "all_steps" (.ref sa) (putF "second" (.ref a2) (putF "first" (.ref a1) []))))))))) wk = some (.ins (He.ga K "Walk") dx (wflds (.ref a1) (.ref a2) sa ma fp bs cm)) :=
      fun Ha => upd_same.trans (congrArg (fun l => some (HO.ins _ dx l)) (wf_build _ _ _ _ _ _ _))
    have s08 := s00 _ (.ins (He.ga K "Walk") dx (putF "came" (.ref cm) (putF "by_stand" (.ref bs) (putF "found_pairs" (.ref fp) (putF "all_marks" (.ref ma) (putF "all_steps" (.ref sa) (putF "second" (.ref a2) (putF "first" (.ref a1) [])))))))) s07
    obtain ⟨m1, N1⟩ := st1
    obtain ⟨m2, N2⟩ := st2
    have D1 := N1.dn.mono (Same.tps s08)
    have D2 := N2.dn.mono (Same.tps s08)
    obtain ⟨n, en⟩ : ∃ n : Wn, n = ⟨wk, fp, bs, cm, .ref a1, .ref a2, sa, ma⟩ := ⟨_, rfl⟩
    have mkS : ∀ H8 : Hp, Same H0 H8 → H8 wk = some (.ins (He.ga K "Walk") dx (wflds (.ref a1) (.ref a2) sa ma fp bs cm)) → H8 fp = some (.lst []) → H8 bs = some (.dK []) → H8 cm = some (DN P w cm []) → WS P w K H0 H8 n [] [] := fun H8 h0 h1 h2 h3 h4 => by
      rw [en]
      exact ⟨[], ⟨h0, ⟨dx, h1⟩, ⟨nfp0, nbs0, ncm0⟩, ⟨[], h2, .nil⟩, h3, List.nodup_nil, List.nodup_nil, fun x hx => (by cases hx), fun q _ => rfl, ⟨[], h4, fun x hx => (by cases hx), rfl, fun k x h => (by simp at h)⟩, rfl, List.nodup_nil, fun e he => (by cases he)⟩, Nat.zero_le _⟩
    refine ⟨.ref wk, rfl, wk, dx, _, rfl, hob _, wf_add _ _ _ _ _ _ _, .ref wk, rfl, wk, _, dx, _, _, rfl, hob _, W.cls 53, W.noat 60, wf_first _ _ _ _ _ _ _, 1, _, _, rfl, D1, rfl, fun u1 du1 => ?_⟩
    refine ⟨.ref wk, rfl, wk, _, dx, _, _, rfl, hob _, W.cls 53, W.noat 61, wf_second _ _ _ _ _ _ _, 1, _, _, rfl, D2, rfl, fun u2 du2 => ⟨by show 1 ≤ 1000; decide, fun t H9 s9 nt et => ⟨by show 2 ≤ 1000; decide, fun pr H10 s10 npr epr => ?_⟩⟩⟩
    rw [du1.num_inv] at epr
    rw [du2.num_inv] at et
    have s8x := Same.trans s9 s10
    have S10 := mkS H10 (Same.trans s08 s8x) (s8x _ _ (hob _)) ?_ ?_ ?_
    · refine ⟨H0, n, [], [], pr, 0, [0], .non, none, by rw [en], S10, .tup epr (.cons (.num _) (.cons (.tup (s10 _ _ et) (.cons (.num _) .nil)) .nil)), by decide, rfl, rfl, by decide, fun F' cs' H' t' S' h => ?_⟩
      rcases h with ⟨⟨S, hS, _⟩, _⟩ | ⟨_, e1, e2⟩
      · cases hS
      · rw [e1, e2] at S'
        exact fin n H0 H' (by rw [en]) kH0 ⟨⟨m1, by rw [en]; exact N1⟩, ⟨m2, by rw [en]; exact N2⟩, by rw [en]; exact st3, by rw [en]; exact st4⟩ S'
    · refine s8x _ _ ((upd_ne nfw).trans ((upd_ne ncf.symm).trans ((upd_ne nfw).trans ((upd_ne nbf.symm).trans ((upd_ne nfw).trans e5)))))
    · refine s8x _ _ ((upd_ne nbw).trans ((upd_ne ncb.symm).trans ((upd_ne nbw).trans upd_same)))
    · refine s8x _ _ ((upd_ne ncw).trans upd_same)
end
end Pk
namespace Pk
set_option autoImplicit false
set_option maxRecDepth 100000
set_option maxHeartbeats 4000000
open PySem PySem.Spec PyProof.Rows L2
theorem sc_Walk_parted_at : FnScope ["self", "pair", "marks", "ours", "theirs", "side", "word", "behind", "stands", "stand"] ["self", "pair", "marks"] d_Walk_parted_at.scope := ⟨rfl, rfl, rfl, by decide +kernel, rfl, by decide +kernel, by decide +kernel⟩
/-! ### the pairs in numbers -/
abbrev WV (p r : Pat) (F : List PairS) (cs : List Link) : Prop := WInv (machine p) (machine r) (subsF (askM p r)) (askS p r) F cs
abbrev Few (p r : Pat) : Prop := ∀ (F : List PairS) (cs : List Link), WV p r F cs → F.length ≤ 65
theorem stp_lt {p : Pat} {S : Nat → Prop} {sd wd : Str} {q : Nat} (h : Stp (machine p) S sd wd q) : q < 2 + fr p := by
  obtain ⟨_, _, _, m, _⟩ := h
  exact (layB p 0 1 2 (by omega) (by omega) _ m).2
theorem WV.lt {p r : Pat} {F : List PairS} {cs : List Link} (W : WV p r F cs) {k q : Nat} {T : List Nat} (h : F[k]? = some (q, T)) : q < 2 + fr p ∧ (∀ x ∈ T, x < 2 + fr r) ∧ T.Pairwise (· < ·) := by
  by_cases h0 : k = 0
  · subst h0
    rw [W.head] at h
    cases h
    exact ⟨by omega, fun x hx => by rw [List.mem_singleton.mp hx]; omega, List.pairwise_singleton _ _⟩
  · obtain ⟨j, m, sd, wd, p', S', x⟩ := W.rest k q T (by omega) h
    exact ⟨stp_lt x.one, fun y hy => stp_lt ((x.two y).mp hy), x.inc⟩
theorem inc_len {T : List Nat} {B : Nat} (i : T.Pairwise (· < ·)) (b : ∀ x ∈ T, x < B) : T.length ≤ B := lt_len (i.imp fun h => Nat.ne_of_lt h) b
def Ext {α : Type} (F F' : List α) : Prop := ∀ (j : Nat) (e : α), F[j]? = some e → F'[j]? = some e
theorem Ext.refl {α : Type} (F : List α) : Ext F F := fun _ _ h => h
theorem Ext.trans {α : Type} {F G I : List α} (a : Ext F G) (b : Ext G I) : Ext F I := fun j e h => b j e (a j e h)
theorem Ext.mem {α : Type} {F G : List α} (a : Ext F G) {e : α} (h : e ∈ F) : e ∈ G := by
  obtain ⟨j, hj, z⟩ := List.getElem_of_mem h
  exact List.mem_of_getElem? (a j e (by rw [List.getElem?_eq_getElem hj, z]))
theorem Dn.pair_inv {H : Hp} {v : V} {q : Nat} {T : List Nat} (h : Dn H v (pkp (q, T))) : ∃ a tv, v = .ref a ∧ H a = some (.tup [vn q, tv]) ∧ Dn H tv (tupN T) := by
  obtain ⟨a, us, ea, epa, du⟩ := h.tup_inv
  obtain ⟨v1, r1, rfl, d1, du⟩ := du.cons_inv
  obtain ⟨tv, r2, rfl, dT, du⟩ := du.cons_inv
  rw [du.nil_inv, d1.num_inv] at epa
  exact ⟨a, tv, ea, epa, dT⟩
theorem Dn.step_inv {H : Hp} {v : V} {s : Str × Str} (h : Dn H v (skey s)) : ∃ a, v = .ref a ∧ H a = some (.tup [.str s.1, .str s.2]) := by
  obtain ⟨a, us, ea, epa, du⟩ := h.tup_inv
  obtain ⟨v1, r1, rfl, d1, du⟩ := du.cons_inv
  obtain ⟨v2, r2, rfl, d2, du⟩ := du.cons_inv
  rw [du.nil_inv, d1.text_inv, d2.text_inv] at epa
  exact ⟨a, ea, epa⟩
/-- a test whose ways meet again -/
theorem mergeT {c : TT} {t u rest : TS} {D : Ends} {σ : L2.St} {H : Hp} (P : Bool → Hp → Prop) (h1 : ∀ Q : Bool → Hp → Prop, (∀ b H', P b H' → Q b H') → c σ H Q)
    (h2 : ∀ b H', P b H' → if b = true then t { D with nx := rest D } σ H' else u { D with nx := rest D } σ H') : tSeq (tIfS c t u) rest D σ H := h1 _ h2
section
variable {P : Program} {w : World} {K : PySem.W.Frag} {mg : Str → Option Value} {base : Heap}
/-- from the pair (q, T) the marks m and the step's word part nothing, and F holds where they lead -/
def Led (p r : Pat) (m : List Str) (q : Nat) (T : List Nat) (s : Str × Str) (F : List PairS) : Prop :=
  ∀ q', Stp (machine p) (Come (machine p) (mkOf m) (fun x => x = q)) s.1 s.2 q' → ∃ S', (q', S') ∈ F ∧ ∀ x ∈ S', Stp (machine r) (Come (machine r) (mkOf m) (fun x => x ∈ T)) s.1 s.2 x
theorem Led.ext {p r : Pat} {m : List Str} {q : Nat} {T : List Nat} {s : Str × Str} {F F' : List PairS} (h : Led p r m q T s F) (e : Ext F F') : Led p r m q T s F' := fun q' h' => let ⟨S', a, b⟩ := h q' h'; ⟨S', e.mem a, b⟩
def sqPartedAt (P : Program) (w : World) (K : PySem.W.Frag) : Sq := fun vs H Q => ∃ (H0 : Hp) (n : Wn) (p r : Pat) (F : List PairS) (cs : List Link) (k : Nat) (q : Nat) (T : List Nat) (pa mk : Addr) (m : List Str), vs = [.ref n.wk, .ref pa, .ref mk] ∧ WS P w K H0 H n F cs ∧ ST K H0 n p r ∧ WV p r F cs ∧ Few p r ∧ sz p ≤ 8 ∧ sz r ≤ 8 ∧
  F[k]? = some (q, T) ∧ Dn H (.ref pa) (pkp (q, T)) ∧ H0 mk = some (.lst (m.map V.str)) ∧ m ∈ subsF (askM p r) ∧
  ∀ (b : Bool) (F' : List PairS) (cs' : List Link) (H' : Hp), Tps H H' → WS P w K H0 H' n F' cs' → WV p r F' cs' → Ext F F' →
    (b = true → F' = F ∧ cs' = cs ∧ Come (machine p) (mkOf m) (fun x => x = q) 1 ∧ ¬ Come (machine r) (mkOf m) (fun x => x ∈ T) 1) →
    (b = false → (Come (machine p) (mkOf m) (fun x => x = q) 1 → Come (machine r) (mkOf m) (fun x => x ∈ T) 1) ∧ ∀ s ∈ askS p r, Led p r m q T s F') → Q (.bl b) H'
theorem ok_parted_at (W : Wd K mg) : Ml P w K mg base (He.ga K "Walk") "parted_at" ["self", "pair", "marks"] 3 (sqPartedAt P w K) := by
  refine mk_ml W 20 56 (d := d_Walk_parted_at) rfl rfl rfl rfl sc_Walk_parted_at (fun _ _ _ _ _ _ us hl => match us, hl with | [_, _, _], _ => rfl) (fun vs H Q h => ?_) (fun f cdv A outer s H vs Q E hr h => ?_)
  · obtain ⟨H0, n, p, r, F, cs, k, q, T, pa, mk, m, rfl, _⟩ := h
    rfl
  · obtain ⟨H0, n, p, r, F, cs, k, q, T, pa, mk, m, rfl, S, st, WI, few, zp, zr, hk, hp, hmk, hm, fin⟩ := h
    have c_come_to : Cl P w K mg base "come_to" ["machine", "stands", "marks"] 2 (sqComeTo K) := ok_come_to W
    have c_has_end : Cl P w K mg base "has_end" ["machine", "stands"] 1 sqHasEnd := ok_has_end W
    have c_stepped : Cl P w K mg base "stepped" ["machine", "stands", "side", "word"] 2 sqStepped := ok_stepped W
    have m_add : Ml P w K mg base (He.ga K "Walk") "add" ["self", "pair", "came"] 2 (sqAdd P w K) := ok_add W
    refine ⟨_, (pss_cons (ps_set (i := 3) sc_Walk_parted_at.nd rfl (Or.inl rfl) (pe_fn c_come_to (hr.mono (by omega)) (by rfl) (pa_cons (pe_fld (pv 0) rfl) (pa_cons (pe_tupN (pa_cons (pe_ix ix_key (pv 1) pe_int (fun _ _ => rfl)) pa_nil)) (pa_cons (pv 2) pa_nil)))))
      (pss_cons (ps_set (i := 4) sc_Walk_parted_at.nd rfl (Or.inl rfl) (pe_fn c_come_to (hr.mono (by omega)) (by rfl) (pa_cons (pe_fld (pv 0) rfl) (pa_cons (pe_ix ix_key (pv 1) pe_int (fun _ _ => rfl)) (pa_cons (pv 2) pa_nil)))))
      (pss_cons (ps_if (PW.pt (pw_and (pt_val (pe_fn c_has_end (hr.mono (by omega)) (by rfl) (pa_cons (pe_fld (pv 0) rfl) (pa_cons (pv 3) pa_nil)))) (pw_and1 (pt_not (pt_val (pe_fn c_has_end (hr.mono (by omega)) (by rfl) (pa_cons (pe_fld (pv 0) rfl) (pa_cons (pv 4) pa_nil))))))))
        (pss_one (ps_ret pe_bl))
        pss_nil)
      (pss_cons (ps_for PassesOwn.never rfl (pi_list (pe_fld (pv 0) rfl)) (pg_tup rfl (pgs_cons (pg_name (i := 5) sc_Walk_parted_at.nd rfl (Or.inl rfl)) (pgs_cons (pg_name (i := 6) sc_Walk_parted_at.nd rfl (Or.inl rfl)) pgs_nil)))
        (pss_cons (ps_set (i := 7) sc_Walk_parted_at.nd rfl (Or.inl rfl) (pe_fn c_stepped (hr.mono (by omega)) (by rfl) (pa_cons (pe_fld (pv 0) rfl) (pa_cons (pv 3) (pa_cons (pv 5) (pa_cons (pv 6) pa_nil))))))
        (pss_one (ps_if (pt_cmpR op_gt (pe_callB call_len (by rfl) (W.free 32) PySem.boot_len (pa_cons (pv 7) pa_nil)) pe_int (nomark _))
          (pss_cons (ps_set (i := 8) sc_Walk_parted_at.nd rfl (Or.inl rfl) (pe_fn c_stepped (hr.mono (by omega)) (by rfl) (pa_cons (pe_fld (pv 0) rfl) (pa_cons (pv 4) (pa_cons (pv 5) (pa_cons (pv 6) pa_nil))))))
          (pss_one (ps_for PassesOwn.never rfl (pi_tup (pv 7)) (pg_name (i := 9) sc_Walk_parted_at.nd rfl (Or.inl rfl))
            (pss_one (ps_expr (pe_mt (pv 0) (W.cls 53) m_add (hr.mono (by omega)) (pa_cons (pe_tupN (pa_cons (pv 9) (pa_cons (pv 8) pa_nil))) (pa_cons (pe_tupN (pa_cons (pv 1) (pa_cons (pv 2) (pa_cons (pv 5) (pa_cons (pv 6) pa_nil))))) pa_nil))))))))
          pss_nil))))
      (pss_one (ps_ret pe_bl)))))), ?_⟩
    obtain ⟨L, SL, hL⟩ := id S
    obtain ⟨dx, hob⟩ := SL.ob
    obtain ⟨mv1, M1⟩ := st.one
    obtain ⟨mv2, M2⟩ := st.two
    have ws1 := wf_first n.f1 n.f2 n.sa n.ma n.fp n.bs n.cm
    have ws2 := wf_second n.f1 n.f2 n.sa n.ma n.fp n.bs n.cm
    obtain ⟨hqlt, hTlt, hTinc⟩ := WV.lt WI hk
    obtain ⟨_, tv, epq, epa, dT⟩ := hp.pair_inv
    cases epq
    have fz := fr_sz p
    have gz := fr_sz r
    -- ours
    refine ⟨.ref n.wk, rfl, n.wk, _, dx, _, _, rfl, hob, W.cls 53, W.noat 60, ws1, .ref pa, rfl, 0, _, _, rfl, hp, rfl, fun u du => ⟨by show 1 ≤ 1000; decide, fun t H1 s1 nt et => ?_⟩⟩
    rw [du.num_inv] at et
    refine ⟨.ref mk, rfl, n.f1, .ref t, mk, p, mv1, [q], m, rfl, M1.mono (Same.tps (Same.trans SL.same s1)), .tup et (.cons (.num _) .nil), by simpa using hqlt, zp, .inl (.inl (s1 _ _ (SL.same _ _ hmk))), fun ov ns1 H2 s2 d1 i1 b1 c1 => ?_⟩
    have sA := Same.trans s1 s2
    have SA := SL.keep sA
    obtain ⟨dx2, hob2⟩ := SA.ob
    -- theirs
    refine ⟨.ref n.wk, rfl, n.wk, _, dx2, _, _, rfl, hob2, W.cls 53, W.noat 61, ws2, .ref pa, rfl, 1, _, _, rfl, hp.mono (Same.tps sA), rfl, fun u2 du2 => ?_⟩
    refine ⟨.ref mk, rfl, n.f2, u2, mk, r, mv2, T, m, rfl, M2.mono (Same.tps SA.same), du2, hTlt, zr, .inl (.inl (SA.same _ _ hmk)), fun tv2 ns2 H3 s3 d2 i2 b2 c2 => ?_⟩
    have sB := Same.trans sA s3
    have SB := SL.keep sB
    obtain ⟨dx3, hob3⟩ := SB.ob
    have l1 : ns1.length ≤ 9 := Nat.le_trans (inc_len i1 b1) (by omega)
    have l2 : ns2.length ≤ 9 := Nat.le_trans (inc_len i2 b2) (by omega)
    have e1 : (fun x => x ∈ [q]) = fun x => x = q := funext fun x => propext List.mem_singleton
    rw [e1] at c1
    -- the ends
    dsimp only [gName]
    refine mergeT (fun b H' => Same H3 H' ∧ b = (decide (1 ∈ ns1) && !decide (1 ∈ ns2))) (fun Q' hQ => ?_) ?_
    · refine ⟨.ref n.wk, rfl, n.wk, _, dx3, _, _, rfl, hob3, W.cls 53, W.noat 60, ws1, ov, rfl, n.f1, ov, p, mv1, ns1, rfl, M1.mono (Same.tps SB.same), d1.mono (Same.tps s3), by omega, fun H4 s4 => ⟨_, rfl, ?_⟩⟩
      by_cases h1 : 1 ∈ ns1
      · rw [decide_eq_true h1]
        refine iteT ?_
        have SC := SL.keep (Same.trans sB s4)
        obtain ⟨dx4, hob4⟩ := SC.ob
        refine ⟨.ref n.wk, rfl, n.wk, _, dx4, _, _, rfl, hob4, W.cls 53, W.noat 61, ws2, tv2, rfl, n.f2, tv2, r, mv2, ns2, rfl, M2.mono (Same.tps SC.same), d2.mono (Same.tps s4), by omega, fun H5 s5 => ⟨_, rfl, ?_⟩⟩
        refine hQ _ _ ⟨Same.trans s4 s5, ?_⟩
        rw [decide_eq_true h1, Bool.true_and]
      · rw [decide_eq_false h1]
        refine iteF ?_
        refine hQ _ _ ⟨s4, ?_⟩
        rw [decide_eq_false h1, Bool.false_and]
    rintro b H4 ⟨s4, eb⟩
    have sC := Same.trans sB s4
    have SC := SL.keep sC
    have d1 := (d1.mono (Same.tps s3)).mono (Same.tps s4)
    have d2 := d2.mono (Same.tps s4)
    cases b with
    | true =>
      refine iteT ?_
      have h := Bool.and_eq_true_iff.mp eb.symm
      have h1 := of_decide_eq_true h.1
      have h2 : 1 ∉ ns2 := fun z => by
        have := h.2
        rw [decide_eq_true z] at this
        cases this
      exact fin true F cs H4 (Same.tps sC) ⟨L, SC, hL⟩ WI (Ext.refl F) (fun _ => ⟨rfl, rfl, (c1 1).mp h1, fun z => h2 ((c2 1).mpr z)⟩) (fun z => by cases z)
    | false =>
      refine iteF ?_
      have hend : Come (machine p) (mkOf m) (fun x => x = q) 1 → Come (machine r) (mkOf m) (fun x => x ∈ T) 1 := fun z => by
        have h1 := (c1 1).mpr z
        rw [decide_eq_true h1, Bool.true_and] at eb
        have h2 : 1 ∈ ns2 := Decidable.byContradiction fun y => by
          rw [decide_eq_false y] at eb
          cases eb
        exact (c2 1).mp h2
      clear eb
      have hmem : (fun x => x ∈ ns1) = Come (machine p) (mkOf m) (fun x => x = q) := funext fun x => propext (c1 x)
      have hmem2 : (fun x => x ∈ ns2) = Come (machine r) (mkOf m) (fun x => x ∈ T) := funext fun x => propext (c2 x)
      obtain ⟨svs, esa, dsa⟩ := st.steps
      obtain ⟨dx4, hob4⟩ := SC.ob
      obtain ⟨nF, enF⟩ : ∃ nF, nF = F.length := ⟨_, rfl⟩
      refine ⟨.ref n.wk, rfl, n.wk, _, dx4, _, _, rfl, hob4, W.cls 53, W.noat 62, wf_steps _ _ _ _ _ _ _, n.sa, rfl, ⟨svs, .inl (.inl (SC.same _ _ esa))⟩, for_list (K := K) (a := n.sa) (xs := svs) (fun i σ H' => ∃ (F1 : List PairS) (cs1 : List Link) (v5 v6 v7 v8 v9 : Option V), σ = [some (.ref n.wk), some (.ref pa), some (.ref mk), some ov, some tv2, v5, v6, v7, v8, v9] ∧ Tps H4 H' ∧ WS P w K H0 H' n F1 cs1 ∧ WV p r F1 cs1 ∧ Ext F F1 ∧
        ∀ j, j < i → ∀ s, (askS p r)[j]? = some s → Led p r m q T s F1) ?_ ?_ ?_ ?_⟩
      · exact ⟨F, cs, none, none, none, none, none, rfl, Tps.refl _, ⟨L, SC, hL⟩, WI, Ext.refl F, fun j hj => absurd hj (Nat.not_lt_zero _)⟩
      · rintro i σ H5 hi ⟨F1, cs1, v5, v6, v7, v8, v9, rfl, t5, ⟨L5, S5, _⟩, _⟩
        exact .inl (.inl (S5.same _ _ esa))
      · rintro i x σ H5 hi ⟨F1, cs1, v5, v6, v7, v8, v9, rfl, t5, ⟨L5, S5, hL5⟩, W5, x5, led⟩
        obtain ⟨ks, eks, dks⟩ := (dsa.mono (Same.tps S5.same)).getV hi
        rw [List.getElem?_map] at eks
        cases es : (askS p r)[i]? with
        | none => rw [es] at eks; cases eks
        | some sw =>
          rw [es] at eks
          cases eks
          obtain ⟨xa, rfl, exa⟩ := dks.step_inv
          obtain ⟨sd, wd⟩ := sw
          have hsw : (sd, wd) ∈ askS p r := List.mem_of_getElem? es
          obtain ⟨dx5, hob5⟩ := S5.ob
          refine ⟨xa, _, rfl, .inl (.inl exa), rfl, .str sd, _, rfl, .str wd, [], rfl, rfl, ?_⟩
          -- behind
          refine ⟨.ref n.wk, rfl, n.wk, _, dx5, _, _, rfl, hob5, W.cls 53, W.noat 60, ws1, ov, rfl, .str sd, rfl, .str wd, rfl, n.f1, ov, p, mv1, ns1, sd, wd, rfl, M1.mono (Same.tps S5.same), d1.mono t5, zp, fun bv nb H6 s6 db ib bb cb => ?_⟩
          rw [hmem] at cb
          have S6 := S5.keep s6
          have t6 := t5.trans (Same.tps s6)
          obtain ⟨ba, rfl, eba⟩ := db.tupN_inv
          refine ⟨.ref ba, rfl, .ref ba, nb.length, rfl, .inr ⟨_, .inl (.inl eba), by rw [List.length_map]⟩, _, _, rfl, rfl, _, rfl, ?_⟩
          refine ite2 (fun hgt => ?_) (fun hgt => ?_)
          · obtain ⟨dx6, hob6⟩ := S6.ob
            refine ⟨.ref n.wk, rfl, n.wk, _, dx6, _, _, rfl, hob6, W.cls 53, W.noat 61, ws2, tv2, rfl, .str sd, rfl, .str wd, rfl, n.f2, tv2, r, mv2, ns2, sd, wd, rfl, M2.mono (Same.tps S6.same), d2.mono t6, zr, fun tv3 nt3 H7 s7 d7 i7 b7 c7 => ?_⟩
            rw [hmem2] at c7
            have S7 := S6.keep s7
            have t7 := t6.trans (Same.tps s7)
            have l7 : nt3.length ≤ 9 := Nat.le_trans (inc_len i7 b7) (by omega)
            refine ⟨.ref ba, rfl, ba, rfl, ⟨_, .inl (.inl (s7 _ _ eba))⟩, for_tup (K := K) (a := ba) (xs := nb.map vn) (fun i' σ H' => ∃ (F2 : List PairS) (cs2 : List Link) (v9 : Option V), σ = [some (.ref n.wk), some (.ref pa), some (.ref mk), some ov, some tv2, some (.str sd), some (.str wd), some (.ref ba), some tv3, v9] ∧ Tps H7 H' ∧ WS P w K H0 H' n F2 cs2 ∧ WV p r F2 cs2 ∧ Ext F1 F2 ∧
              ∀ j, j < i' → ∀ q', nb[j]? = some q' → ∃ S', (q', S') ∈ F2 ∧ ∀ x ∈ S', Stp (machine r) (Come (machine r) (mkOf m) (fun x => x ∈ T)) sd wd x) ?_ ?_ ?_ ?_⟩
            · exact ⟨F1, cs1, v9, rfl, Tps.refl _, ⟨L5, S7, hL5⟩, W5, Ext.refl F1, fun j hj => absurd hj (Nat.not_lt_zero _)⟩
            · rintro i' σ H8 hi' ⟨F2, cs2, v9, rfl, t8, _⟩
              exact .inl (.inl (t8 _ _ (s7 _ _ eba)))
            · rintro i' y σ H8 hi' ⟨F2, cs2, v9, rfl, t8, ⟨L8, S8, hL8⟩, W8, x8, led8⟩
              rw [List.getElem?_map] at hi'
              cases ey : nb[i']? with
              | none => rw [ey] at hi'; cases hi'
              | some q' =>
                rw [ey] at hi'
                cases hi'
                have hq' := (cb q').mp (List.mem_of_getElem? ey)
                obtain ⟨dx8, hob8⟩ := S8.ob
                have fl := few F2 cs2 W8
                refine ⟨.ref n.wk, rfl, n.wk, dx8, _, rfl, hob8, wf_add _ _ _ _ _ _ _, vn q', rfl, tv3, rfl, by show 2 ≤ 1000; decide, fun pr H9 s9 npr epr => ?_⟩
                refine ⟨.ref pa, rfl, .ref mk, rfl, .str sd, rfl, .str wd, rfl, by show 4 ≤ 1000; decide, fun cr H10 s10 ncr ecr => ?_⟩
                have s8x := Same.trans s9 s10
                have S10 := S8.keep s8x
                have tx := t8.trans (Same.tps s8x)
                have hFk : F2[k]? = some (q, T) := x8 _ _ (x5 _ _ hk)
                refine ⟨H0, n, F2, cs2, pr, q', nt3, .ref cr, some (k, m, sd, wd), rfl, ⟨L8, S10, hL8⟩, .tup (s10 _ _ epr) (.cons (.num _) (.cons (d7.mono tx) .nil)), by omega, ⟨cr, mk, .ref pa, (q, T), rfl, ecr, hFk, (hp.mono (Same.tps sC)).mono (t7.trans tx), hmk⟩, rfl, by omega, fun F3 cs3 H11 t11 S11 h11 => ?_⟩
                rcases h11 with ⟨⟨S', hS', hsub⟩, rfl, rfl⟩ | ⟨hnu, rfl, rfl⟩
                · refine ⟨F3, cs3, _, rfl, tx.trans t11, S11, W8, x8, fun j hj q2 eq2 => ?_⟩
                  by_cases hji : j < i'
                  · exact led8 j hji q2 eq2
                  · have : j = i' := by omega
                    subst this
                    rw [ey] at eq2
                    cases eq2
                    exact ⟨S', hS', fun x hx => (c7 x).mp (hsub x hx)⟩
                · have W11 := W8.snoc (p := q') (S := nt3) (fun z => hnu ⟨nt3, z, fun x h => h⟩) hm hsw hFk hq' i7 c7
                  have xs : Ext F2 (F2 ++ [(q', nt3)]) := fun j e h => get_snoc h
                  refine ⟨_, _, _, rfl, tx.trans t11, S11, W11, x8.trans xs, fun j hj q2 eq2 => ?_⟩
                  by_cases hji : j < i'
                  · obtain ⟨S', a', b'⟩ := led8 j hji q2 eq2
                    exact ⟨S', xs.mem a', b'⟩
                  · have : j = i' := by omega
                    subst this
                    rw [ey] at eq2
                    cases eq2
                    exact ⟨nt3, by simp, fun x hx => (c7 x).mp hx⟩
            · rintro σ H8 ⟨F2, cs2, v9, rfl, t8, S8, W8, x8, led8⟩
              refine ⟨F2, cs2, _, _, _, _, _, rfl, t7.trans t8, S8, W8, x5.trans x8, fun j hj s' es' => ?_⟩
              by_cases hji : j < i
              · exact (led j hji s' es').ext x8
              · have : j = i := by omega
                subst this
                rw [es] at es'
                cases es'
                intro q' hq'
                obtain ⟨j', hj', e'⟩ := List.getElem_of_mem ((cb q').mpr hq')
                exact led8 j' (by rw [List.length_map]; exact hj') q' (by rw [List.getElem?_eq_getElem hj', e'])
          · refine ⟨F1, cs1, _, _, _, _, _, rfl, t6, ⟨L5, S6, hL5⟩, W5, x5, fun j hj s' es' => ?_⟩
            by_cases hji : j < i
            · exact led j hji s' es'
            · have : j = i := by omega
              subst this
              rw [es] at es'
              cases es'
              intro q' hq'
              have hmem' := (cb q').mpr hq'
              have : 0 < nb.length := List.length_pos_of_mem hmem'
              exact absurd (decide_eq_true (by omega)) hgt
      · rintro σ H5 ⟨F1, cs1, v5, v6, v7, v8, v9, rfl, t5, S5, W5, x5, led⟩
        refine fin false F1 cs1 H5 ((Same.tps sC).trans t5) S5 W5 x5 (fun z => by cases z) fun _ => ⟨hend, fun s hs => ?_⟩
        obtain ⟨j, hj, e⟩ := List.getElem_of_mem hs
        exact led j (by rw [dsa.length, List.length_map]; exact hj) s (by rw [List.getElem?_eq_getElem hj, e])
end
end Pk
namespace Pk
set_option autoImplicit false
set_option maxRecDepth 100000
set_option maxHeartbeats 4000000
open PySem PySem.Spec PyProof.Rows L2
theorem sc_Walk_parting : FnScope ["self", "at", "marks"] ["self"] d_Walk_parting.scope := ⟨rfl, rfl, rfl, by decide +kernel, rfl, by decide +kernel, by decide +kernel⟩
theorem sc_Walk_trail : FnScope ["self", "pair", "found", "marks", "side", "word"] ["self", "pair"] d_Walk_trail.scope := ⟨rfl, rfl, rfl, by decide +kernel, rfl, by decide +kernel, by decide +kernel⟩
/-- the j-th pair is looked through -/
def GoodM (p r : Pat) (F : List PairS) (q : Nat) (T : List Nat) (m : List Str) : Prop :=
  (Come (machine p) (mkOf m) (fun x => x = q) 1 → Come (machine r) (mkOf m) (fun x => x ∈ T) 1) ∧ ∀ s ∈ askS p r, Led p r m q T s F
def GoodP (p r : Pat) (F : List PairS) (j : Nat) : Prop := ∀ q T, F[j]? = some (q, T) → ∀ m ∈ subsF (askM p r), GoodM p r F q T m
theorem GoodM.ext {p r : Pat} {F F' : List PairS} {q : Nat} {T : List Nat} {m : List Str} (g : GoodM p r F q T m) (e : Ext F F') : GoodM p r F' q T m := ⟨g.1, fun s hs => (g.2 s hs).ext e⟩
theorem GoodP.ext {p r : Pat} {F F' : List PairS} {j : Nat} (g : GoodP p r F j) (e : Ext F F') (hj : j < F.length) : GoodP p r F' j := fun q T h m hm => by
  have h2 := List.getElem?_eq_getElem hj
  have h3 := e j _ h2
  rw [h] at h3
  have h4 := Option.some.inj h3
  exact (g q T (by rw [h2, ← h4]) m hm).ext e
theorem yes_of {p r : Pat} {F : List PairS} {cs : List Link} (W : WV p r F cs) (g : ∀ j, j < F.length → GoodP p r F j) : Yes (machine p) (machine r) (subsF (askM p r)) (askS p r) F where
  beg := List.mem_of_getElem? W.head
  ends := fun q T h m hm => by
    obtain ⟨j, hj, e⟩ := List.getElem_of_mem h
    exact (g j hj q T (by rw [List.getElem?_eq_getElem hj, e]) m hm).1
  on := fun q T h m hm sd wd hs q' hq' => by
    obtain ⟨j, hj, e⟩ := List.getElem_of_mem h
    exact (g j hj q T (by rw [List.getElem?_eq_getElem hj, e]) m hm).2 (sd, wd) hs q' hq'
section
variable {P : Program} {w : World} {K : PySem.W.Frag} {mg : Str → Option Value} {base : Heap}
def sqParting (P : Program) (w : World) (K : PySem.W.Frag) : Sq := fun vs H Q => ∃ (H0 : Hp) (n : Wn) (p r : Pat) (F : List PairS) (cs : List Link), vs = [.ref n.wk] ∧ WS P w K H0 H n F cs ∧ ST K H0 n p r ∧ WV p r F cs ∧ Few p r ∧ sz p ≤ 8 ∧ sz r ≤ 8 ∧
  (∀ (F' : List PairS) (cs' : List Link) (H' : Hp), WS P w K H0 H' n F' cs' → WV p r F' cs' → Yes (machine p) (machine r) (subsF (askM p r)) (askS p r) F' → Q .non H') ∧
  (∀ (F' : List PairS) (cs' : List Link) (H' : Hp) (a pa mk : Addr) (k q : Nat) (T : List Nat) (m : List Str), WS P w K H0 H' n F' cs' → WV p r F' cs' → H' a = some (.tup [.ref pa, .ref mk]) → Dn H' (.ref pa) (pkp (q, T)) → F'[k]? = some (q, T) → H0 mk = some (.lst (m.map V.str)) → m ∈ subsF (askM p r) →
    Come (machine p) (mkOf m) (fun x => x = q) 1 → ¬ Come (machine r) (mkOf m) (fun x => x ∈ T) 1 → Q (.ref a) H')
theorem fp_at {H : Hp} {fp : Addr} {F : List PairS} (l : Lk H fp (F.map pkp)) {k q : Nat} {T : List Nat} (h : F[k]? = some (q, T)) : ∃ fv pa, H fp = some (.lst fv) ∧ fv[k]? = some (.ref pa) ∧ Dn H (.ref pa) (pkp (q, T)) ∧ fv.length = F.length := by
  obtain ⟨fv, ef, df⟩ := l
  obtain ⟨v, ev, dv⟩ := df.get (i := k) (k := pkp (q, T)) (by rw [List.getElem?_map, h] <;> rfl)
  obtain ⟨a, _, rfl, _⟩ := dv.pair_inv
  exact ⟨fv, a, ef, ev, dv, by rw [df.length, List.length_map]⟩
theorem ok_parting (W : Wd K mg) : Ml P w K mg base (He.ga K "Walk") "parting" ["self"] 4 (sqParting P w K) := by
  refine mk_ml W 21 57 (d := d_Walk_parting) rfl rfl rfl rfl sc_Walk_parting (fun _ _ _ _ _ _ us hl => match us, hl with | [_], _ => rfl) (fun vs H Q h => ?_) (fun f cdv A outer s H vs Q E hr h => ?_)
  · obtain ⟨H0, n, p, r, F, cs, rfl, _⟩ := h
    rfl
  · obtain ⟨H0, n, p, r, F, cs, rfl, S, st, WI, few, zp, zr, qN, qS⟩ := h
    have m_parted_at : Ml P w K mg base (He.ga K "Walk") "parted_at" ["self", "pair", "marks"] 3 (sqPartedAt P w K) := ok_parted_at W
    refine ⟨_, (pss_cons (ps_set (i := 1) sc_Walk_parting.nd rfl (Or.inl rfl) pe_int)
      (pss_cons (ps_while PassesOwn.never (pt_cmpR op_lt (pv 1) (pe_callB call_len (by rfl) (W.free 32) PySem.boot_len (pa_cons (pe_fld (pv 0) rfl) pa_nil)) (nomark _))
        (pss_cons (ps_for PassesOwn.never rfl (pi_list (pe_fld (pv 0) rfl)) (pg_name (i := 2) sc_Walk_parting.nd rfl (Or.inl rfl))
          (pss_one (ps_if (pt_val (pe_mt (pv 0) (W.cls 53) m_parted_at (hr.mono (by omega)) (pa_cons (pe_ix ix_list (pe_fld (pv 0) rfl) (pv 1) (fun _ _ => rfl)) (pa_cons (pv 2) pa_nil))))
            (pss_one (ps_ret (pe_tupN (pa_cons (pe_ix ix_list (pe_fld (pv 0) rfl) (pv 1) (fun _ _ => rfl)) (pa_cons (pv 2) pa_nil)))))
            pss_nil)))
        (pss_one (ps_set (i := 1) sc_Walk_parting.nd rfl (Or.inl rfl) (pe_op op_add (pv 1) pe_int)))))
      (pss_one (ps_ret pe_non)))), ?_⟩
    obtain ⟨I, hI⟩ : ∃ I : Nat → L2.St → Hp → Prop, I = fun m σ H' => ∃ (i : Nat) (F1 : List PairS) (cs1 : List Link) (v2 : Option V), σ = [some (.ref n.wk), some (vn i), v2] ∧ WS P w K H0 H' n F1 cs1 ∧ WV p r F1 cs1 ∧ i ≤ F1.length ∧ (∀ j, j < i → GoodP p r F1 j) ∧ m + i = 66 := ⟨_, rfl⟩
    refine ⟨I, ⟨66, ?_⟩, ?_⟩
    · rw [hI]
      exact ⟨0, F, cs, none, rfl, S, WI, Nat.zero_le _, fun j hj => absurd hj (Nat.not_lt_zero _), rfl⟩
    · intro mm σ H1 h
      rw [hI] at h
      obtain ⟨i, F1, cs1, v2, rfl, ⟨L1, S1, hL1⟩, W1, hi, good, hmm⟩ := h
      obtain ⟨dx1, hob1⟩ := S1.ob
      obtain ⟨fv, ef, df⟩ := S1.fps
      have hfl : fv.length = F1.length := by rw [df.length, List.length_map]
      have f65 := few F1 cs1 W1
      refine ⟨vn i, rfl, .ref n.wk, rfl, n.wk, _, dx1, _, _, rfl, hob1, W.cls 53, W.noat 64, wf_fp _ _ _ _ _ _ _, .ref n.fp, fv.length, rfl, .inl ⟨fv, .inl (.inl ef), rfl⟩, _, _, rfl, rfl, _, rfl, ?_⟩
      refine ite2 (fun hlt => ?_) (fun hlt => ?_)
      · have hlt : i < F1.length := by
          have := of_decide_eq_true hlt
          omega
        obtain ⟨⟨q, T⟩, eqT⟩ : ∃ e : PairS, F1[i]? = some e := ⟨_, List.getElem?_eq_getElem hlt⟩
        refine ⟨fun σ' H' => ∃ m', m' < mm ∧ I m' σ' H', fun σ' H' h => h, ?_⟩
        obtain ⟨mvs, ema, ama⟩ := st.marks
        refine ⟨.ref n.wk, rfl, n.wk, _, dx1, _, _, rfl, hob1, W.cls 53, W.noat 63, wf_marks _ _ _ _ _ _ _, n.ma, rfl, ⟨mvs, .inl (.inl (S1.same _ _ ema))⟩, for_list (K := K) (a := n.ma) (xs := mvs) (fun j σ H' => ∃ (F2 : List PairS) (cs2 : List Link) (v2 : Option V), σ = [some (.ref n.wk), some (vn i), v2] ∧ WS P w K H0 H' n F2 cs2 ∧ WV p r F2 cs2 ∧ Ext F1 F2 ∧
          ∀ j', j' < j → ∀ m, (subsF (askM p r))[j']? = some m → GoodM p r F2 q T m) ?_ ?_ ?_ ?_⟩
        · exact ⟨F1, cs1, v2, rfl, ⟨L1, S1, hL1⟩, W1, Ext.refl F1, fun j hj => absurd hj (Nat.not_lt_zero _)⟩
        · rintro j σ H2 hj ⟨F2, cs2, v2, rfl, ⟨L2, S2, _⟩, _⟩
          exact .inl (.inl (S2.same _ _ ema))
        · rintro j x σ H2 hj ⟨F2, cs2, v2, rfl, ⟨L2, S2, hL2⟩, W2, x2, good2⟩
          obtain ⟨mk, m, rfl, em, emk⟩ := ama.get hj
          have hm := List.mem_of_getElem? em
          obtain ⟨dx2, hob2⟩ := S2.ob
          have eqT2 := x2 _ _ eqT
          obtain ⟨fv2, pa, ef2, epa, dpa, hf2⟩ := fp_at S2.fps eqT2
          refine ⟨.ref n.wk, rfl, n.wk, dx2, _, rfl, hob2, wf_parted _ _ _ _ _ _ _, .ref n.wk, rfl, n.wk, _, dx2, _, _, rfl, hob2, W.cls 53, W.noat 64, wf_fp _ _ _ _ _ _ _, vn i, rfl, n.fp, fv2, i, .ref pa, rfl, rfl, .inl (.inl ef2), atI_nat epa, .ref mk, rfl, ?_⟩
          refine ⟨H0, n, p, r, F2, cs2, i, q, T, pa, mk, m, rfl, ⟨L2, S2, hL2⟩, st, W2, few, zp, zr, eqT2, dpa, emk, hm, fun b F3 cs3 H3 t3 S3 W3 x3 hT hF => ⟨_, rfl, ?_⟩⟩
          cases b with
          | true =>
            refine iteT ?_
            obtain ⟨rfl, rfl, come, ncome⟩ := hT rfl
            obtain ⟨L3, SL3, _⟩ := id S3
            obtain ⟨dx3, hob3⟩ := SL3.ob
            obtain ⟨fv3, pa3, ef3, epa3, dpa3, hf3⟩ := fp_at SL3.fps eqT2
            refine ⟨.ref n.wk, rfl, n.wk, _, dx3, _, _, rfl, hob3, W.cls 53, W.noat 64, wf_fp _ _ _ _ _ _ _, vn i, rfl, n.fp, fv3, i, .ref pa3, rfl, rfl, .inl (.inl ef3), atI_nat epa3, .ref mk, rfl, by show 2 ≤ 1000; decide, fun a H4 s4 na ea => ?_⟩
            exact qS F3 cs3 H4 a pa3 mk i q T m ⟨L3, SL3.keep s4, ‹_›⟩ W3 ea (dpa3.mono (Same.tps s4)) eqT2 emk hm come ncome
          | false =>
            refine iteF ?_
            refine ⟨F3, cs3, _, rfl, S3, W3, x2.trans x3, fun j' hj' m' em' => ?_⟩
            by_cases h : j' < j
            · exact (good2 j' h m' em').ext x3
            · have : j' = j := by omega
              subst this
              rw [em] at em'
              cases em'
              exact hF rfl
        · rintro σ H2 ⟨F2, cs2, v2, rfl, S2, W2, x2, good2⟩
          have hl2 : F1.length ≤ F2.length := by
            have h1 := List.getElem?_eq_getElem (l := F1) (i := F1.length - 1) (by omega)
            have h2 := (List.getElem?_eq_some_iff.mp (x2 _ _ h1)).1
            omega
          refine ⟨vn i, rfl, _, _, rfl, rfl, mm - 1, by omega, ?_⟩
          rw [hI]
          refine ⟨i + 1, F2, cs2, _, rfl, S2, W2, by omega, fun j hj => ?_, by omega⟩
          by_cases h : j < i
          · exact (good j h).ext x2 (by omega)
          · have : j = i := by omega
            subst this
            intro q' T' e' m hm
            rw [x2 _ _ eqT] at e'
            cases e'
            obtain ⟨j', hj', e⟩ := List.getElem_of_mem hm
            exact good2 j' (by rw [ama.len]; exact hj') m (by rw [List.getElem?_eq_getElem hj', e])
      · have hge : i = F1.length := by
          have : ¬ ((i : Int) < (fv.length : Int)) := fun z => hlt (decide_eq_true z)
          omega
        exact qN F1 cs1 H1 ⟨L1, S1, hL1⟩ W1 (yes_of W1 fun j hj => good j (by omega))
end
end Pk
namespace Pk
set_option autoImplicit false
set_option maxRecDepth 100000
set_option maxHeartbeats 4000000
open PySem PySem.Spec PyProof.Rows L2
abbrev TrE := List Str × Str × Str
/-- one turn of a trail at v -/
def TrAt (H0 H : Hp) (v : V) (e : TrE) : Prop := ∃ a mk : Addr, v = .ref a ∧ H a = some (.tup [.ref mk, .str e.2.1, .str e.2.2]) ∧ H0 mk = some (.lst (e.1.map V.str))
inductive TrAll (H0 H : Hp) : List V → List TrE → Prop
  | nil : TrAll H0 H [] []
  | cons {v : V} {vs : List V} {e : TrE} {es : List TrE} : TrAt H0 H v e → TrAll H0 H vs es → TrAll H0 H (v :: vs) (e :: es)
theorem TrAt.mono {H0 H H' : Hp} {v : V} {e : TrE} (h : TrAt H0 H v e) (t : Tps H H') : TrAt H0 H' v e := let ⟨a, mk, b, c, d⟩ := h; ⟨a, mk, b, t _ _ c, d⟩
theorem TrAll.mono {H0 H H' : Hp} {vs : List V} {es : List TrE} (h : TrAll H0 H vs es) (t : Tps H H') : TrAll H0 H' vs es := by
  induction h with
  | nil => exact .nil
  | cons a _ ih => exact .cons (a.mono t) ih
theorem TrAll.append {H0 H : Hp} {vs us : List V} {es fs : List TrE} (h : TrAll H0 H vs es) (k : TrAll H0 H us fs) : TrAll H0 H (vs ++ us) (es ++ fs) := by
  induction h with
  | nil => exact k
  | cons a _ ih => exact .cons a ih
theorem TrAll.length {H0 H : Hp} {vs : List V} {es : List TrE} (h : TrAll H0 H vs es) : vs.length = es.length := by
  induction h with
  | nil => rfl
  | cons _ _ ih => rw [List.length_cons, List.length_cons, ih]
theorem TrAll.get {H0 H : Hp} {vs : List V} {es : List TrE} (h : TrAll H0 H vs es) : ∀ {i : Nat} {v : V}, vs[i]? = some v → ∃ e, es[i]? = some e ∧ TrAt H0 H v e := by
  induction h with
  | nil => intro i v h; simp at h
  | cons a _ ih =>
    intro i v h
    cases i with
    | zero => cases h; exact ⟨_, rfl, a⟩
    | succ i => exact ih h
theorem TrAll.getE {H0 H : Hp} {vs : List V} {es : List TrE} (h : TrAll H0 H vs es) : ∀ {i : Nat} {e : TrE}, es[i]? = some e → ∃ v, vs[i]? = some v ∧ TrAt H0 H v e := by
  induction h with
  | nil => intro i v h; simp at h
  | cons a _ ih =>
    intro i v h
    cases i with
    | zero => cases h; exact ⟨_, rfl, a⟩
    | succ i => exact ih h
theorem TrAll.reverse {H0 H : Hp} {vs : List V} {es : List TrE} (h : TrAll H0 H vs es) : TrAll H0 H vs.reverse es.reverse := by
  induction h with
  | nil => exact .nil
  | cons a _ ih =>
    rw [List.reverse_cons, List.reverse_cons]
    exact ih.append (.cons a .nil)
theorem getN_at : ∀ {xs : List NEnt} {k : Nat} {x : NEnt}, (xs.map (·.1)).Nodup → xs[k]? = some x → getN xs x.1 = some x.2.2
  | [], _, _, _, h => by simp at h
  | y :: xs, 0, x, _, h => by
    cases h
    unfold getN
    rw [List.find?_cons_of_pos (by simp)] <;> rfl
  | y :: xs, k + 1, x, nd, h => by
    rw [List.map_cons, List.nodup_cons] at nd
    have hne : y.1 ≠ x.1 := fun z => nd.1 (z ▸ List.mem_map_of_mem (List.mem_of_getElem? h))
    have ih := getN_at nd.2 (show xs[k]? = some x from h)
    unfold getN at ih ⊢
    rw [List.find?_cons_of_neg (by simpa using hne)]
    exact ih
section
variable {P : Program} {w : World} {K : PySem.W.Frag} {mg : Str → Option Value} {base : Heap} {H0 H : Hp} {n : Wn} {F : List PairS} {cs : List Link}
/-- what came[pair] holds -/
theorem WSL.came_at {X : Cx} {L : List (Nat × Addr)} (S : WSL X.prog X.w K H0 H n F cs L) (hF : F.length ≤ 900) {k : Nat} {e : PairS} (h : F[k]? = some e) :
    ∃ xs v c, DnOk X H n.cm xs ∧ getN xs (pkp e) = some v ∧ cs[k]? = some c ∧ CameV H0 H F v c := by
  obtain ⟨xs, ex, xd, xk, xg⟩ := S.cms
  have hxl : xs.length = F.length := by rw [← List.length_map (f := (·.1)), xk, List.length_map]
  have hk := (List.getElem?_eq_some_iff.mp h).1
  have hx : xs[k]? = some xs[k] := List.getElem?_eq_getElem (by omega)
  obtain ⟨_, c, hc, cv⟩ := xg k _ hx
  have ek : (xs[k]).1 = pkp e := by
    have h1 : (xs.map (·.1))[k]? = some (xs[k]).1 := by rw [List.getElem?_map, hx] <;> rfl
    rw [xk, List.getElem?_map, h] at h1
    exact (Option.some.inj h1).symm
  have nd : (xs.map (·.1)).Nodup := by
    rw [xk]
    exact List.Pairwise.map pkp (fun a b h e => h (pkp_inj e)) S.nodup
  refine ⟨xs, _, c, ⟨ex, fun x hx => ⟨xd x hx, ?_⟩, nd, fun x hx => ?_, by omega⟩, ek ▸ getN_at nd hx, hc, cv⟩
  · have : x.1 ∈ F.map pkp := xk ▸ List.mem_map_of_mem hx
    obtain ⟨y, _, e⟩ := List.mem_map.mp this
    rw [← e]
    exact pkp_depth y
  · obtain ⟨i, hi, e⟩ := List.getElem_of_mem hx
    exact (xg i x (by rw [List.getElem?_eq_getElem hi, e])).1
def sqTrail (P : Program) (w : World) (K : PySem.W.Frag) : Sq := fun vs H Q => ∃ (H0 : Hp) (n : Wn) (F : List PairS) (cs : List Link) (pw0 : V) (e : PairS) (k : Nat) (t : Tr), vs = [.ref n.wk, pw0] ∧ WS P w K H0 H n F cs ∧ Dn H pw0 (pkp e) ∧ F[k]? = some e ∧ TrailOf cs k t ∧ t.length ≤ 100 ∧ F.length ≤ 900 ∧
  ∀ (a : Addr) (tv : List V) (H' : Hp), Same H H' → H a = none → H' a = some (.lst tv) → TrAll H0 H' tv t → Q (.ref a) H'
theorem ok_trail (W : Wd K mg) : Ml P w K mg base (He.ga K "Walk") "trail" ["self", "pair"] 1 (sqTrail P w K) := by
  refine mk_ml W 22 58 (d := d_Walk_trail) rfl rfl rfl rfl sc_Walk_trail (fun _ _ _ _ _ _ us hl => match us, hl with | [_, _], _ => rfl) (fun vs H Q h => ?_) (fun f cdv A outer s H vs Q E hr h => ?_)
  · obtain ⟨H0, n, F, cs, pw0, e, k, t, rfl, _⟩ := h
    rfl
  · obtain ⟨H0, n, F, cs, pw0, e, k, t, rfl, ⟨L, S, hL⟩, hp, hk, ht, hlen, hF, fin⟩ := h
    have hu := hr.units
    refine ⟨_, (pss_cons (ps_set (i := 2) sc_Walk_trail.nd rfl (Or.inl rfl) (pe_lstN pa_nil))
      (pss_cons (ps_while PassesOwn.never (pt_cmpR op_notN (pe_dgetN hu (pe_fld (pv 0) rfl) (pv 1) (fun _ _ => rfl)) pe_non (nomark _))
        (pss_cons (ps_asg (pe_dgetN hu (pe_fld (pv 0) rfl) (pv 1) (fun _ _ => rfl)) (pg_tup rfl (pgs_cons (pg_name (i := 1) sc_Walk_trail.nd rfl (Or.inl rfl)) (pgs_cons (pg_name (i := 3) sc_Walk_trail.nd rfl (Or.inl rfl)) (pgs_cons (pg_name (i := 4) sc_Walk_trail.nd rfl (Or.inl rfl)) (pgs_cons (pg_name (i := 5) sc_Walk_trail.nd rfl (Or.inl rfl)) pgs_nil))))))
        (pss_one (ps_expr (pe_bm PySem.F.plainAttrs_list PySem.F.slot_list_append PySem.F.type_list_append mt_append (pv 2) (pa_cons (pe_tupN (pa_cons (pv 3) (pa_cons (pv 4) (pa_cons (pv 5) pa_nil)))) pa_nil))))))
      (pss_cons (ps_expr (pe_bm0 PySem.F.plainAttrs_list PySem.F.slot_list_reverse PySem.F.type_list_reverse mt_reverse (pv 2)))
      (pss_one (ps_ret (pv 2)))))), ?_⟩
    refine ⟨Nat.zero_le _, fun fl H1 s1 nfl efl => ?_⟩
    obtain ⟨I, hI⟩ : ∃ I : Nat → L2.St → Hp → Prop, I = fun m σ H' => ∃ (pv1 : V) (e1 : PairS) (k1 : Nat) (t1 t2 : Tr) (fv : List V) (v3 v4 v5 : Option V), σ = [some (.ref n.wk), some pv1, some (.ref fl), v3, v4, v5] ∧ Same H H' ∧ Dn H' pv1 (pkp e1) ∧ F[k1]? = some e1 ∧ TrailOf cs k1 t1 ∧ t = t1 ++ t2 ∧ H' fl = some (.lst fv) ∧ TrAll H0 H' fv t2.reverse ∧ m = t1.length := ⟨_, rfl⟩
    refine ⟨I, ⟨t.length, ?_⟩, ?_⟩
    · rw [hI]
      exact ⟨pw0, e, k, t, [], [], none, none, none, rfl, s1, hp.mono (Same.tps s1), hk, ht, by rw [List.append_nil], efl, .nil, rfl⟩
    · intro m σ H2 h
      rw [hI] at h
      obtain ⟨pv1, e1, k1, t1, t2, fv, v3, v4, v5, rfl, sx, dp, hk1, ht1, ett, efv, tfv, rfl⟩ := h
      have S2 := S.keep sx
      obtain ⟨dx2, hob2⟩ := S2.ob
      obtain ⟨xs, v, c, D, hg, hc, cv⟩ := S2.came_at (X := (cxOf CX0 P w K mg base ["self", "pair", "found", "marks", "side", "word"] d_Walk_trail.qual d_Walk_trail.scope f cdv A outer s H E).nox) hF hk1
      obtain ⟨b, _, rfl, _⟩ := dp.pair_inv
      refine ⟨.ref n.wk, rfl, n.wk, _, dx2, _, _, rfl, hob2, W.cls 53, W.noat 66, wf_cm _ _ _ _ _ _ _, .ref b, rfl, n.cm, xs, pkp e1, b, v, rfl, rfl, D, dp, pkp_depth _, hg, rfl, _, rfl, ?_⟩
      cases ht1 with
      | start h0 =>
        rw [h0] at hc
        cases hc
        have ev : v = .non := cv
        subst ev
        refine iteF ?_
        refine ⟨.ref fl, rfl, .inl ⟨rfl, _, .inl (.inl efv)⟩, fl, fv, rfl, rfl, efv, ?_⟩
        have sy : Same H (upd H2 fl (.lst fv.reverse)) := But.same nfl sx But.upd
        have tt : Tps H2 (upd H2 fl (.lst fv.reverse)) := Tps.mut efv (by intro xs z; cases z)
        refine ⟨.ref fl, rfl, fin fl fv.reverse _ sy nfl upd_same ?_⟩
        have := (tfv.mono tt).reverse
        rw [List.reverse_reverse] at this
        rw [ett, List.nil_append]
        exact this
      | more h0 ht' =>
        rename_i j mm sd wd t'
        rw [h0] at hc
        cases hc
        obtain ⟨a, mk, pw0', e', rfl, ea, hj, dj, emk⟩ := cv
        refine iteT ?_
        refine ⟨fun σ' H' => ∃ m', m' < (t' ++ [(mm, sd, wd)]).length ∧ I m' σ' H', fun σ' H' h => h, ?_⟩
        refine ⟨.ref n.wk, rfl, n.wk, _, dx2, _, _, rfl, hob2, W.cls 53, W.noat 66, wf_cm _ _ _ _ _ _ _, .ref b, rfl, n.cm, xs, pkp e1, b, _, rfl, rfl, D, dp, pkp_depth _, hg, a, _, rfl, .inl (.inl ea), rfl, pw0', _, rfl, .ref mk, _, rfl, .str sd, _, rfl, .str wd, [], rfl, rfl, ?_⟩
        refine ⟨.ref fl, rfl, .inl ⟨rfl, _, .inl (.inl efv)⟩, .ref mk, rfl, .str sd, rfl, .str wd, rfl, by show 3 ≤ 1000; decide, fun x H3 s3 nx ex => ?_⟩
        have efv3 := s3 _ _ efv
        have hfl : fv.length ≤ 100 := by
          rw [tfv.length, List.length_reverse]
          have := congrArg List.length ett
          rw [List.length_append] at this
          omega
        refine ⟨fl, fv, .ref x, rfl, rfl, efv3, small_lt hfl (by decide), t'.length, by simp, ?_⟩
        rw [hI]
        have tt : Tps H3 (upd H3 fl (.lst (fv ++ [.ref x]))) := Tps.mut efv3 (by intro xs z; cases z)
        refine ⟨pw0', e', j, t', (mm, sd, wd) :: t2, fv ++ [.ref x], _, _, _, rfl, But.same nfl (Same.trans sx s3) But.upd, (dj.mono (Same.tps s3)).mono tt, hj, ht', ?_, upd_same, ?_, rfl⟩
        · rw [ett, List.append_assoc] <;> rfl
        · rw [List.reverse_cons]
          exact ((tfv.mono (Same.tps s3)).mono tt).append (.cons ⟨x, mk, rfl, tt _ _ ex, emk⟩ .nil)
end
end Pk
namespace Pk
set_option autoImplicit false
set_option maxRecDepth 100000
set_option maxHeartbeats 4000000
open PySem PySem.Spec PyProof.Rows L2
section
variable {X : Cx}
def nSortL (K : PySem.W.Frag) : List V → Hp → VK → Prop := fun xs H Q => ∃ (l : Addr) (bs : List (V × NestedKey)), xs = [.ref l] ∧ SqL K H l (bs.map (·.1)) ∧ (∀ b ∈ bs, Dn H b.1 b.2) ∧ Sble bs ∧ Nw H (fun _ => .lst ((srt bs).map (·.1))) Q
theorem n_sortL (hu : X.A.units + 64 < cLine) : CallR X (.builtin "sorted") (nSortL X.K) := CallR.imp (call_sortedL hu) fun vs H Q ⟨l, bs, a, b, c, d, e⟩ => ⟨l, bs, a, b, c, d, e.use⟩
def nSortT (K : PySem.W.Frag) : List V → Hp → VK → Prop := fun xs H Q => ∃ (l : Addr) (ts : List Str), xs = [.ref l] ∧ SqL K H l (ts.map V.str) ∧ ts.length ≤ 1000 ∧ Nw H (fun _ => .lst ((ts.mergeSort sle).map V.str)) Q
theorem n_sortT (hu : X.A.units + 64 < cLine) : CallR X (.builtin "sorted") (nSortT X.K) := CallR.imp (n_sortL hu) fun vs H Q ⟨l, ts, a, b, c, d⟩ => by
  refine ⟨l, ts.map fun x => (V.str x, NestedKey.text x), a, ?_, ?_, sble_texts ts (by omega), fun p H' s np e => d p H' s np ?_⟩
  · rw [List.map_map]
    exact b
  · intro b hb
    obtain ⟨x, _, rfl⟩ := List.mem_map.mp hb
    exact .text x
  · rw [e, srt_texts] <;> rfl
def nTupF (K : PySem.W.Frag) : List V → Hp → VK → Prop := fun xs H Q => ∃ (p : Addr) (ys : List V), xs = [.ref p] ∧ SqL K H p ys ∧ ∀ (l : Addr) (o : Obj) (H' : Hp), Same H H' → H l = none → o.dict = none → H' l = some (.frz o (.tup ys)) → Q (.ref l) H'
theorem n_tupF : CallR X (.type "tuple") (nTupF X.K) := CallR.imp call_tupleF fun vs H Q ⟨p, ys, a, b, c⟩ => ⟨p, ys, a, b, fun l o nl od => c l o _ (Same.new nl) nl od upd_same⟩
end
theorem sc_Walk_web_by : FnScope ["self", "pair", "marks", "trail", "k", "knots", "steps", "ties", "side", "word"] ["self", "pair", "marks"] d_Walk_web_by.scope := ⟨rfl, rfl, rfl, by decide +kernel, rfl, by decide +kernel, by decide +kernel⟩
theorem srt_perm (bs : List (V × NestedKey)) : (srt bs).Perm bs := List.mergeSort_perm _ _
theorem srt_pw (bs : List (V × NestedKey)) : (srt bs).Pairwise fun a b => PySem.W.dataLe false (fun b : V × NestedKey => b.2.data) a b = true := by
  have tl := PySem.W.sortLe_total (listOrd itemOrd) false fun b : V × NestedKey => PySem.W.keyToks b.2.data
  exact List.pairwise_mergeSort tl.trans (fun a b => by rw [Bool.or_eq_true]; exact tl.total a b) bs
def nCutT (K : PySem.W.Frag) : V → Option Int → Option Int → Hp → VK → Prop := fun x lo hi H Q => ∃ (a : Addr) (xs : List V), x = .ref a ∧ SqT K H a xs ∧ ¬ (HT.sIx xs.length 0 lo = 0 ∧ HT.sIx xs.length xs.length hi = xs.length) ∧ Nw H (fun _ => .tup (cutV xs lo hi)) Q
theorem n_cutT {X : Cx} : SlR X (nCutT X.K) := fun pins s σ H x v vl vu lo hi sl Q I rx hs pl pu ⟨a, xs, e, h, n, d⟩ => sl_tup pins s σ H x v vl vu lo hi sl Q I rx hs pl pu ⟨a, xs, e, h, n, d.use⟩
/-! ### the web -/
abbrev Knot := Str × List Str
def kkey (k : Knot) : NestedKey := .tup [.text k.1, tk k.2]
theorem le_name {a b : Knot} (h : PySem.W.dataLe false (fun k : Knot => (kkey k).data) a b = true) : sle a.1 b.1 = true := by
  have h1 : (!(PySem.W.dataLt (kkey b).data (kkey a).data)) = true := h
  have e : PySem.W.dataLt (kkey b).data (kkey a).data = PyProof.Rows.lexLt itemOrd (PySem.W.keyToksAll (.str b.1 :: [(tk b.2).data])) (PySem.W.keyToksAll (.str a.1 :: [(tk a.2).data])) := PySem.W.dataLt_tuple _ _
  rw [e, PySem.W.dataLt_cons rfl] at h1
  cases q : PyData.eqv (.str b.1) (.str a.1) with
  | true =>
    have : b.1 = a.1 := by
      have : (b.1 == a.1) = true := q
      exact beq_iff_eq.mp this
    rw [this]
    unfold sle
    exact decide_eq_true (List.le_refl _)
  | false =>
    rw [q, if_neg Bool.false_ne_true, PySem.W.dataLt_str, PySem.W.not_lt_str] at h1
    exact h1
def msk (t : Tr) (m : List Str) (k : Nat) : List Str := (t.map (·.1) ++ [m]).getD k []
def knotsOf (t : Tr) (m : List Str) : List Knot := (List.range (t.length + 1)).map fun k => (knotF k, msk t m k)
def stepAt (t : Tr) (k : Nat) : Str × Str := (t.getD k ([], "", "")).2
def tieOf (t : Tr) (k : Nat) : List Str := if (stepAt t k).1 = "on" then [knotF k, (stepAt t k).2, knotF (k + 1)] else [knotF (k + 1), (stepAt t k).2, knotF k]
def tiesOf (t : Tr) : List (List Str) := (List.range t.length).map (tieOf t)
def stepKey (t : Tr) (k : Nat) : NestedKey := .tup [.text (stepAt t k).1, .text (stepAt t k).2, .text (knotF (k + 1))]
def wayKey (t : Tr) : NestedKey := .tup [.text (knotF 0), .tup ((List.range t.length).map (stepKey t))]
structure WebD (H : Hp) (rv : V) (t : Tr) (m : List Str) : Prop where
  ex : ∃ (a ro ka ta : Addr) (wy : V) (o : Obj) (kl : List (Addr × Knot)) (tl : List Rw), rv = .ref a ∧ H a = some (.tup [.ref ro, wy]) ∧ H ro = some (.tup [.ref ka, .ref ta]) ∧
    H ka = some (.frz o (.tup (kl.map fun x => V.ref x.1))) ∧ o.dict = none ∧ (∀ x ∈ kl, Dn H (.ref x.1) (kkey x.2)) ∧ (kl.map (·.2)).Perm (knotsOf t m) ∧ (kl.map (·.2.1)).Pairwise (fun a b => sle a b = true) ∧
    H ta = some (.tup (tl.map fun x => V.ref x.1)) ∧ (∀ x ∈ tl, H x.1 = some (.tup (x.2.map V.str))) ∧ (tl.map (·.2)).Perm (tiesOf t) ∧ tl.Pairwise (fun a b => ple a b = true) ∧ Dn H wy (wayKey t)
end Pk
namespace Pk
set_option autoImplicit false
set_option maxRecDepth 100000
set_option maxHeartbeats 4000000
open PySem PySem.Spec PyProof.Rows L2
theorem map_inj {α β : Type} {f : α → β} (hf : ∀ a b, f a = f b → a = b) : ∀ {l l' : List α}, l.map f = l'.map f → l = l'
  | [], [], _ => rfl
  | [], _ :: _, h => by simp at h
  | _ :: _, [], h => by simp at h
  | a :: l, b :: l', h => by
    simp only [List.map_cons, List.cons.injEq] at h
    rw [hf a b h.1, map_inj hf h.2]
theorem tr_at {t : Tr} {k : Nat} {e : TrE} (h : t[k]? = some e) (m : List Str) : msk t m k = e.1 ∧ stepAt t k = e.2 := by
  have hk := (List.getElem?_eq_some_iff.mp h).1
  constructor
  · unfold msk
    rw [List.getD_eq_getElem?_getD, List.getElem?_append_left (by rw [List.length_map]; exact hk), List.getElem?_map, h] <;> rfl
  · unfold stepAt
    rw [List.getD_eq_getElem?_getD, h] <;> rfl
theorem msk_last (t : Tr) (m : List Str) : msk t m t.length = m := by
  unfold msk
  rw [List.getD_eq_getElem?_getD, List.getElem?_append_right (by rw [List.length_map]; exact Nat.le_refl _), List.length_map, Nat.sub_self] <;> rfl
theorem range_snoc {α : Type} (f : Nat → α) (n : Nat) : (List.range (n + 1)).map f = (List.range n).map f ++ [f n] := by
  rw [List.range_succ, List.map_append] <;> rfl
theorem sble_knots {bs : List (V × NestedKey)} {ks : List Knot} (e : bs.map (·.2) = ks.map kkey) (hl : ks.length ≤ 1000) : Sble bs := by
  have e2 : (bs.map fun b => b.2.data) = ks.map fun k => (kkey k).data := by
    have h := congrArg (List.map NestedKey.data) e
    rw [List.map_map, List.map_map] at h
    exact h
  refine ⟨?_, .inl fun d hd => ?_, ?_, fun b hb => ?_⟩
  · intro d hd d' hd'
    rw [e2] at hd hd'
    obtain ⟨x, mx, rfl⟩ := List.mem_map.mp hd
    obtain ⟨y, my, rfl⟩ := List.mem_map.mp hd'
    show (true && (PySem.W.alikeAll (NestedKey.datas (x.2.map .text)) (NestedKey.datas (y.2.map .text)) && true)) = true
    rw [alike_texts] <;> rfl
  · rw [e2] at hd
    obtain ⟨x, mx, rfl⟩ := List.mem_map.mp hd
    exact ⟨_, _, rfl⟩
  · have := congrArg List.length e
    rw [List.length_map, List.length_map] at this
    omega
  · have : b.2 ∈ ks.map kkey := e ▸ List.mem_map_of_mem hb
    obtain ⟨k, _, e3⟩ := List.mem_map.mp this
    rw [← e3]
    show max 0 (max (PyData.depthAll (NestedKey.datas (k.2.map .text)) + 1) 0) + 1 ≤ 8
    rw [depth_texts]
    decide
theorem sble_ties {bs : List (V × NestedKey)} {ks : List (List Str)} (e : bs.map (·.2) = ks.map tk) (ne : ∀ k ∈ ks, k ≠ []) (hl : ks.length ≤ 1000) : Sble bs := by
  have e2 : (bs.map fun b => b.2.data) = ks.map fun k => (tk k).data := by
    have h := congrArg (List.map NestedKey.data) e
    rw [List.map_map, List.map_map] at h
    exact h
  refine ⟨?_, .inl fun d hd => ?_, ?_, fun b hb => ?_⟩
  · intro d hd d' hd'
    rw [e2] at hd hd'
    obtain ⟨x, mx, rfl⟩ := List.mem_map.mp hd
    obtain ⟨y, my, rfl⟩ := List.mem_map.mp hd'
    exact alike_texts x y
  · rw [e2] at hd
    obtain ⟨x, mx, rfl⟩ := List.mem_map.mp hd
    cases x with
    | nil => exact absurd rfl (ne _ mx)
    | cons a r => exact ⟨_, _, rfl⟩
  · have := congrArg List.length e
    rw [List.length_map, List.length_map] at this
    omega
  · have : b.2 ∈ ks.map tk := e ▸ List.mem_map_of_mem hb
    obtain ⟨k, _, e3⟩ := List.mem_map.mp this
    rw [← e3]
    show PyData.depthAll (NestedKey.datas (k.map .text)) + 1 ≤ 8
    rw [depth_texts]
    decide
/-- a list of data as pairs -/
theorem Lk.pairs {H : Hp} {a : Addr} {ks : List NestedKey} (l : Lk H a ks) : ∃ bs : List (V × NestedKey), H a = some (.lst (bs.map (·.1))) ∧ bs.map (·.2) = ks ∧ ∀ b ∈ bs, Dn H b.1 b.2 := by
  obtain ⟨vs, e, d⟩ := l
  have : ∀ {vs : List V} {ks : List NestedKey}, DnAll H vs ks → ∃ bs : List (V × NestedKey), bs.map (·.1) = vs ∧ bs.map (·.2) = ks ∧ ∀ b ∈ bs, Dn H b.1 b.2 := by
    intro vs ks
    induction ks generalizing vs with
    | nil => intro d; exact ⟨[], by rw [d.nil_inv] <;> rfl, rfl, fun b hb => (by cases hb)⟩
    | cons k ks ih =>
      intro d
      obtain ⟨v, us, rfl, d1, d2⟩ := d.cons_inv
      obtain ⟨bs, e1, e2, e3⟩ := ih d2
      refine ⟨(v, k) :: bs, by rw [List.map_cons, e1], by rw [List.map_cons, e2], fun b hb => ?_⟩
      rcases List.mem_cons.mp hb with rfl | hb
      · exact d1
      · exact e3 b hb
  obtain ⟨bs, e1, e2, e3⟩ := this d
  exact ⟨bs, by rw [e1]; exact e, e2, e3⟩
/-- pairs over addresses -/
theorem pairs_ref {α : Type} {H : Hp} {f : α → NestedKey} {bs : List (V × NestedKey)} (hd : ∀ b ∈ bs, Dn H b.1 b.2) (hf : ∀ b ∈ bs, ∃ x, b.2 = f x) (ht : ∀ x, ∃ ks, f x = .tup ks) : ∃ xs : List (Addr × α), bs = xs.map fun x => (V.ref x.1, f x.2) := by
  induction bs with
  | nil => exact ⟨[], rfl⟩
  | cons b bs ih =>
    obtain ⟨xs, e⟩ := ih (fun c h => hd c (List.mem_cons_of_mem _ h)) fun c h => hf c (List.mem_cons_of_mem _ h)
    obtain ⟨x, ex⟩ := hf b List.mem_cons_self
    obtain ⟨ks, ek⟩ := ht x
    have d := hd b List.mem_cons_self
    obtain ⟨b1, b2⟩ := b
    simp only at ex d
    subst ex
    rw [ek] at d
    obtain ⟨a, _, e1, _⟩ := d.tup_inv
    exact ⟨(a, x) :: xs, by rw [List.map_cons, ← e, e1]⟩
section
variable {P : Program} {w : World} {K : PySem.W.Frag} {mg : Str → Option Value} {base : Heap}
def sqWebBy (P : Program) (w : World) (K : PySem.W.Frag) : Sq := fun vs H Q => ∃ (H0 : Hp) (n : Wn) (F : List PairS) (cs : List Link) (pw0 : V) (mk : Addr) (e : PairS) (k : Nat) (t : Tr) (m : List Str), vs = [.ref n.wk, pw0, .ref mk] ∧ WS P w K H0 H n F cs ∧ Dn H pw0 (pkp e) ∧ F[k]? = some e ∧ TrailOf cs k t ∧ t.length ≤ 64 ∧ F.length ≤ 900 ∧ H0 mk = some (.lst (m.map V.str)) ∧
  (∀ x ∈ t, x.1.mergeSort sle = x.1 ∧ x.1.length ≤ 10) ∧ m.mergeSort sle = m ∧ m.length ≤ 10 ∧ ∀ (rv : V) (H' : Hp), Same H H' → WebD H' rv t m → Q rv H'
theorem ok_web_by (W : Wd K mg) : Ml P w K mg base (He.ga K "Walk") "web_by" ["self", "pair", "marks"] 2 (sqWebBy P w K) := by
  refine mk_ml W 23 59 (d := d_Walk_web_by) rfl rfl rfl rfl sc_Walk_web_by (fun _ _ _ _ _ _ us hl => match us, hl with | [_, _, _], _ => rfl) (fun vs H Q h => ?_) (fun f cdv A outer s H vs Q E hr h => ?_)
  · obtain ⟨H0, n, F, cs, pw0, mk, e, k, t, m, rfl, _⟩ := h
    rfl
  · obtain ⟨H0, n, F, cs, pw0, mk, e, k, t, m, rfl, S, hp, hk, ht, hlen, hF, hmk, hts, hms, hml, fin⟩ := h
    have hu := hr.units
    have c_knot_by : Cl P w K mg base "knot_by" ["number"] 1 sqKnotBy := ok_knot_by W
    have m_trail : Ml P w K mg base (He.ga K "Walk") "trail" ["self", "pair"] 1 (sqTrail P w K) := ok_trail W
    refine ⟨_, (pss_cons (ps_set (i := 3) sc_Walk_web_by.nd rfl (Or.inr rfl) (pe_mt (pv 0) (W.cls 53) m_trail (hr.mono (by omega)) (pa_cons (pv 1) pa_nil)))
      (pss_cons (ps_setLc (i := 5) (own := [("k", 4)]) rfl sc_Walk_web_by.nd rfl rfl (sw_true rfl rfl rfl (by decide +kernel)) (pi_range1 (by rfl) (W.free 35) (pa_cons (pe_callB call_len (by rfl) (W.free 32) PySem.boot_len (pa_cons (pv 3) pa_nil)) pa_nil)) (blkOk_by (own := [("k", 4)]) (N := ["self", "pair", "marks", "trail", "k", "knots", "steps", "ties", "side", "word"]) (sc := d_Walk_web_by.scope) (by decide +kernel)) (fun _ _ _ _ _ => (pg_name (i := 4) sc_Walk_web_by.nd rfl (Or.inl rfl))) (fun _ _ _ _ _ => pts_nil) (fun _ _ _ _ _ => (pe_tupN (pa_cons (pe_fn c_knot_by (hr.mono (by omega)) (by rfl) (pa_cons (pv 4) pa_nil)) (pa_cons (pe_callTy (show CallR _ _ (nTupL K) from n_tuple) (by rfl) (W.free 37) (by decide +kernel) (pa_cons (pe_callB (show CallR _ _ (nSortT K) from (n_sortT hu)) (by rfl) (W.free 33) (by decide +kernel) (pa_cons (pe_ix (show IxR _ (rIxT K) from ix_tup) (pe_ix (show IxR _ (rIxL K) from ix_list) (pv 3) (pv 4) (fun _ _ => rfl)) pe_int (fun _ _ => rfl)) pa_nil)) pa_nil)) pa_nil)))))
      (pss_cons (ps_expr (pe_bm PySem.F.plainAttrs_list PySem.F.slot_list_append PySem.F.type_list_append mt_append (pv 5) (pa_cons (pe_tupN (pa_cons (pe_fn c_knot_by (hr.mono (by omega)) (by rfl) (pa_cons (pe_callB call_len (by rfl) (W.free 32) PySem.boot_len (pa_cons (pv 3) pa_nil)) pa_nil)) (pa_cons (pe_callTy n_tuple (by rfl) (W.free 37) (by decide +kernel) (pa_cons (pe_callB (n_sortT hu) (by rfl) (W.free 33) (by decide +kernel) (pa_cons (pv 2) pa_nil)) pa_nil)) pa_nil))) pa_nil)))
      (pss_cons (ps_set (i := 6) sc_Walk_web_by.nd rfl (Or.inl rfl) (pe_lstN pa_nil))
      (pss_cons (ps_set (i := 7) sc_Walk_web_by.nd rfl (Or.inl rfl) (pe_lstN pa_nil))
      (pss_cons (ps_for PassesOwn.never rfl (pi_range1 (by rfl) (W.free 35) (pa_cons (pe_callB call_len (by rfl) (W.free 32) PySem.boot_len (pa_cons (pv 3) pa_nil)) pa_nil)) (pg_name (i := 4) sc_Walk_web_by.nd rfl (Or.inl rfl))
        (pss_cons (ps_asg (pe_slice n_cutT (pe_ix ix_list (pv 3) (pv 4) (fun _ _ => rfl)) (po_some pe_int) po_none) (pg_tup rfl (pgs_cons (pg_name (i := 8) sc_Walk_web_by.nd rfl (Or.inl rfl)) (pgs_cons (pg_name (i := 9) sc_Walk_web_by.nd rfl (Or.inl rfl)) pgs_nil))))
        (pss_cons (ps_expr (pe_bm PySem.F.plainAttrs_list PySem.F.slot_list_append PySem.F.type_list_append mt_append (pv 6) (pa_cons (pe_tupN (pa_cons (pv 8) (pa_cons (pv 9) (pa_cons (pe_fn c_knot_by (hr.mono (by omega)) (by rfl) (pa_cons (pe_op op_add (pv 4) pe_int) pa_nil)) pa_nil)))) pa_nil)))
        (pss_one (ps_if (pt_cmpR op_eqT (pv 8) pe_str (nomark _))
          (pss_one (ps_expr (pe_bm PySem.F.plainAttrs_list PySem.F.slot_list_append PySem.F.type_list_append mt_append (pv 7) (pa_cons (pe_tupN (pa_cons (pe_fn c_knot_by (hr.mono (by omega)) (by rfl) (pa_cons (pv 4) pa_nil)) (pa_cons (pv 9) (pa_cons (pe_fn c_knot_by (hr.mono (by omega)) (by rfl) (pa_cons (pe_op op_add (pv 4) pe_int) pa_nil)) pa_nil)))) pa_nil))))
          (pss_one (ps_expr (pe_bm PySem.F.plainAttrs_list PySem.F.slot_list_append PySem.F.type_list_append mt_append (pv 7) (pa_cons (pe_tupN (pa_cons (pe_fn c_knot_by (hr.mono (by omega)) (by rfl) (pa_cons (pe_op op_add (pv 4) pe_int) pa_nil)) (pa_cons (pv 9) (pa_cons (pe_fn c_knot_by (hr.mono (by omega)) (by rfl) (pa_cons (pv 4) pa_nil)) pa_nil)))) pa_nil)))))))))
      (pss_one (ps_ret (pe_tupN (pa_cons (pe_tupN (pa_cons (pe_callTy n_tupF (by rfl) (W.free 37) (by decide +kernel) (pa_cons (pe_callB (n_sortL hu) (by rfl) (W.free 33) (by decide +kernel) (pa_cons (pv 5) pa_nil)) pa_nil)) (pa_cons (pe_callTy n_tuple (by rfl) (W.free 37) (by decide +kernel) (pa_cons (pe_callB (n_sortL hu) (by rfl) (W.free 33) (by decide +kernel) (pa_cons (pv 7) pa_nil)) pa_nil)) pa_nil))) (pa_cons (pe_tupN (pa_cons (pe_fn c_knot_by (hr.mono (by omega)) (by rfl) (pa_cons pe_int pa_nil)) (pa_cons (pe_callTy n_tuple (by rfl) (W.free 37) (by decide +kernel) (pa_cons (pv 6) pa_nil)) pa_nil))) pa_nil))))))))))), ?_⟩
    obtain ⟨L, SL, hL⟩ := id S
    obtain ⟨dx, hob⟩ := SL.ob
    refine ⟨.ref n.wk, rfl, n.wk, dx, _, rfl, hob, wf_trail _ _ _ _ _ _ _, pw0, rfl, H0, n, F, cs, pw0, e, k, t, rfl, S, hp, hk, ht, by omega, hF, fun ta tv H1 s1 nta eta dta => ?_⟩
    have hmk1 := s1 _ _ (SL.same _ _ hmk)
    have htl : tv.length = t.length := dta.length
    have s01 := Same.trans SL.same s1
    -- knots
    refine ⟨.ref ta, rfl, .ref ta, t.length, rfl, .inl ⟨tv, .inl (.inl eta), by rw [htl]⟩, (t.length : Int), rfl, by omega, by omega, fun kl nkl => lc_range (lo := 0) (n := t.length) (fun i Hx => Same H1 Hx ∧ Lk Hx kl (((List.range i).map fun k => (knotF k, msk t m k)).map kkey)) ⟨Same.new nkl, ⟨_, upd_same, .nil⟩⟩ ?_ ?_⟩
    · rintro i Hx hi ⟨sx, ys, ey, dy⟩
      have et : t[i]? = some t[i] := List.getElem?_eq_getElem hi
      obtain ⟨hm1, hm2⟩ := tr_at et m
      obtain ⟨v, ev, a, mi, rfl, ea, emi⟩ := (dta.mono (Same.tps sx)).getE et
      have hyl : ys.length = i := by rw [dy.length, List.length_map, List.length_map, List.length_range]
      obtain ⟨hsort, hsl⟩ := hts _ (List.mem_of_getElem? et)
      refine ⟨rfl, lc_yes ?_⟩
      refine ⟨.int (0 + (i : Int)), rfl, i, by rw [Int.zero_add], by omega, .ref ta, rfl, .int (0 + (i : Int)), rfl, ta, tv, _, .ref a, rfl, rfl, .inl (.inl (sx _ _ eta)), (by rw [Int.zero_add]; exact atI_nat ev), a, _, 0, .ref mi, rfl, rfl, .inl (.inl ea), atI_nat (j := 0) rfl, mi, _, rfl, .inl (.inl (sx _ _ (s01 _ _ emi))), by omega, fun l H2 s2 nl el => ?_⟩
      rw [hsort] at el
      refine ⟨l, _, rfl, .inl (.inl el), fun tu H3 s3 ntu etu => ⟨by show 2 ≤ 1000; decide, fun x H4 s4 nx ex => ?_⟩⟩
      have s24 := Same.trans (Same.trans s2 s3) s4
      have ey4 := s24 _ _ ey
      have tt : Tps H4 (upd H4 kl (.lst (ys ++ [.ref x]))) := Tps.mut ey4 (by intro xs z; cases z)
      refine ⟨ys, ey4, small_lt (m := 100) (by omega) (by decide), But.same nkl (Same.trans sx s24) But.upd, _, upd_same, ?_⟩
      rw [range_snoc, List.map_append]
      refine ((dy.mono (Same.tps s24)).mono tt).append (.cons (.tup (tt _ _ ex) (.cons (.text _) (.cons ?_ .nil))) .nil)
      rw [hm1]
      exact dn_row (tt _ _ (s4 _ _ etu))
    · rintro Hx ⟨sx, ys, ey, dy⟩
      have hyl : ys.length = t.length := by rw [dy.length, List.length_map, List.length_map, List.length_range]
      -- knots.append
      refine ⟨.ref kl, rfl, .inl ⟨rfl, _, .inl (.inl ey)⟩, .ref ta, rfl, .ref ta, t.length, rfl, .inl ⟨tv, .inl (.inl (sx _ _ eta)), by rw [htl]⟩, t.length, rfl, by omega, .ref mk, rfl, mk, m, rfl, .inl (.inl (sx _ _ hmk1)), by omega, fun l H2 s2 nl el => ?_⟩
      rw [hms] at el
      refine ⟨l, _, rfl, .inl (.inl el), fun tu H3 s3 ntu etu => ⟨by show 2 ≤ 1000; decide, fun x H4 s4 nx ex => ?_⟩⟩
      have s24 := Same.trans (Same.trans s2 s3) s4
      have ey4 := s24 _ _ ey
      have tt : Tps H4 (upd H4 kl (.lst (ys ++ [.ref x]))) := Tps.mut ey4 (by intro xs z; cases z)
      refine ⟨kl, ys, .ref x, rfl, rfl, ey4, small_lt (m := 100) (by omega) (by decide), ?_⟩
      obtain ⟨H5, e5⟩ : ∃ H5, H5 = upd H4 kl (.lst (ys ++ [.ref x])) := ⟨_, rfl⟩
      rw [← e5] at tt ⊢
      have lk5 : Lk H5 kl ((knotsOf t m).map kkey) := by
        refine ⟨ys ++ [.ref x], by rw [e5]; exact upd_same, ?_⟩
        unfold knotsOf
        rw [range_snoc, List.map_append]
        refine ((dy.mono (Same.tps s24)).mono tt).append (.cons (.tup (tt _ _ ex) (.cons (.text _) (.cons ?_ .nil))) .nil)
        rw [msk_last]
        exact dn_row (tt _ _ (s4 _ _ etu))
      have s15 : Same H1 H5 := by rw [e5]; exact But.same nkl (Same.trans sx s24) But.upd
      -- steps, ties
      refine ⟨Nat.zero_le _, fun sl H6 s6 nsl esl => ⟨Nat.zero_le _, fun tl H7 s7 ntl etl => ?_⟩⟩
      have s17 := Same.trans (Same.trans s15 s6) s7
      have eta7 := s17 _ _ eta
      have esl7 := s7 _ _ esl
      have lk7 : Lk H7 kl ((knotsOf t m).map kkey) := by
        obtain ⟨vs, a, b⟩ := lk5
        exact ⟨vs, s7 _ _ (s6 _ _ a), (b.mono (Same.tps s6)).mono (Same.tps s7)⟩
      have nst : sl ≠ tl := ne_of_none esl ntl
      obtain ⟨kv, ekl, dkl⟩ := lk7
      have nks : kl ≠ sl := fun z => by
        obtain ⟨vs, a, b⟩ := lk5
        rw [z, nsl] at a
        cases a
      have nkt : kl ≠ tl := fun z => by
        obtain ⟨vs, a, b⟩ := lk5
        have := s6 _ _ a
        rw [z, ntl] at this
        cases this
      have nas : ta ≠ sl := ne_of_none (s15 _ _ eta) nsl
      have nat_ : ta ≠ tl := ne_of_none (s6 _ _ (s15 _ _ eta)) ntl
      have nsl1 : H1 sl = none := Same.free s15 nsl
      have ntl1 : H1 tl = none := Same.free (Same.trans s15 s6) ntl
      refine ⟨.ref ta, rfl, .ref ta, t.length, rfl, .inl ⟨tv, .inl (.inl eta7), by rw [htl]⟩, (t.length : Int), rfl, by omega, by omega, for_range (lo := 0) (n := t.length) (fun i σ H' => ∃ (v4 v8 v9 : Option V), σ = [some (.ref n.wk), some pw0, some (.ref mk), some (.ref ta), v4, some (.ref kl), some (.ref sl), some (.ref tl), v8, v9] ∧ Same H1 H' ∧ H' kl = some (.lst kv) ∧ DnAll H' kv ((knotsOf t m).map kkey) ∧
        Lk H' sl ((List.range i).map (stepKey t)) ∧ Lk H' tl (((List.range i).map (tieOf t)).map tk)) ?_ ?_ ?_⟩
      · exact ⟨_, none, none, rfl, s17, ekl, dkl, ⟨_, esl7, .nil⟩, ⟨_, etl, .nil⟩⟩
      · rintro i σ H8 hi ⟨v4, v8, v9, rfl, s8, ek8, dk8, ⟨sv, es8, ds8⟩, ⟨tv8, et8, dt8⟩⟩
        have et : t[i]? = some t[i] := List.getElem?_eq_getElem hi
        obtain ⟨_, hm2⟩ := tr_at et m
        obtain ⟨v, ev, a, mi, rfl, ea, emi⟩ := (dta.mono (Same.tps s8)).getE et
        have hsl8 : sv.length = i := by rw [ds8.length, List.length_map, List.length_range]
        have htl8 : tv8.length = i := by rw [dt8.length, List.length_map, List.length_map, List.length_range]
        refine ⟨.ref ta, rfl, .int (0 + (i : Int)), rfl, ta, tv, _, .ref a, rfl, rfl, .inl (.inl (s8 _ _ eta)), (by rw [Int.zero_add]; exact atI_nat ev), 1, rfl, a, _, rfl, .inl (.inl ea), (fun z => by have h1 := z.1; exact absurd h1 (by show ¬ (1 = 0); decide)), fun c H9 s9 nc ec => ?_⟩
        have ec : H9 c = some (.tup [.str (t[i]).2.1, .str (t[i]).2.2]) := ec
        rw [← hm2] at ec
        refine ⟨c, _, rfl, .inl (.inl ec), rfl, _, _, rfl, _, [], rfl, rfl, ?_⟩
        -- steps.append
        have es9 := s9 _ _ es8
        refine ⟨.ref sl, rfl, .inl ⟨rfl, _, .inl (.inl es9)⟩, .str (stepAt t i).1, rfl, .str (stepAt t i).2, rfl, .int (0 + (i : Int)), rfl, _, _, rfl, rfl, i + 1, by rw [Int.zero_add] <;> rfl, by omega, by show 3 ≤ 1000; decide, fun x H10 s10 nx ex => ?_⟩
        have es10 := s10 _ _ es9
        refine ⟨sl, sv, .ref x, rfl, rfl, es10, small_lt (m := 100) (by omega) (by decide), ?_⟩
        have tt : Tps H10 (upd H10 sl (.lst (sv ++ [.ref x]))) := Tps.mut es10 (by intro xs z; cases z)
        obtain ⟨H11, e11⟩ : ∃ H11, H11 = upd H10 sl (.lst (sv ++ [.ref x])) := ⟨_, rfl⟩
        rw [← e11] at tt ⊢
        have s811 : ∀ b o, H8 b = some o → b ≠ sl → H11 b = some o := fun b o h n => by
          rw [e11, upd_ne n]
          exact s10 _ _ (s9 _ _ h)
        have t811 : Tps H8 H11 := ((Same.tps s9).trans (Same.tps s10)).trans tt
        have s1_11 : Same H1 H11 := fun b o h => s811 b o (s8 _ _ h) (ne_of_none h nsl1)
        have ls11 : Lk H11 sl ((List.range (i + 1)).map (stepKey t)) := by
          refine ⟨_, by rw [e11]; exact upd_same, ?_⟩
          rw [range_snoc]
          exact (ds8.mono t811).append (.cons (.tup (tt _ _ ex) (.cons (.text _) (.cons (.text _) (.cons (.text _) .nil)))) .nil)
        have et11 : H11 tl = some (.lst tv8) := s811 _ _ et8 nst.symm
        have ek11 : H11 kl = some (.lst kv) := s811 _ _ ek8 nks
        -- the tie
        have tie : ∀ (y : Addr) (H12 : Hp), Same H11 H12 → H12 y = some (.tup ((tieOf t i).map V.str)) → ∃ (v4 v8 v9 : Option V), [some (.ref n.wk), some pw0, some (.ref mk), some (.ref ta), some (.int (0 + (i : Int))), some (.ref kl), some (.ref sl), some (.ref tl), some (.str (stepAt t i).1), some (.str (stepAt t i).2)] = [some (.ref n.wk), some pw0, some (.ref mk), some (.ref ta), v4, some (.ref kl), some (.ref sl), some (.ref tl), v8, v9] ∧
            Same H1 (upd H12 tl (.lst (tv8 ++ [.ref y]))) ∧ (upd H12 tl (.lst (tv8 ++ [.ref y]))) kl = some (.lst kv) ∧ DnAll (upd H12 tl (.lst (tv8 ++ [.ref y]))) kv ((knotsOf t m).map kkey) ∧
            Lk (upd H12 tl (.lst (tv8 ++ [.ref y]))) sl ((List.range (i + 1)).map (stepKey t)) ∧ Lk (upd H12 tl (.lst (tv8 ++ [.ref y]))) tl (((List.range (i + 1)).map (tieOf t)).map tk) := fun y H12 s12 ey => by
          have et12 := s12 _ _ et11
          have tt2 : Tps H12 (upd H12 tl (.lst (tv8 ++ [.ref y]))) := Tps.mut et12 (by intro xs z; cases z)
          have tall := (t811.trans (Same.tps s12)).trans tt2
          refine ⟨_, _, _, rfl, But.same ntl1 (Same.trans s1_11 s12) But.upd, by rw [upd_ne nkt]; exact s12 _ _ ek11, dk8.mono tall, ?_, ⟨_, upd_same, ?_⟩⟩
          · obtain ⟨vs, a, b⟩ := ls11
            exact ⟨vs, by rw [upd_ne nst]; exact s12 _ _ a, (b.mono (Same.tps s12)).mono tt2⟩
          · rw [range_snoc, List.map_append]
            exact (dt8.mono tall).append (.cons (dn_row (tt2 _ _ ey)) .nil)
        refine ⟨.str (stepAt t i).1, rfl, _, _, rfl, rfl, _, rfl, ?_⟩
        refine ite2 (fun hon => ?_) (fun hon => ?_)
        · have hon : (stepAt t i).1 = "on" := of_decide_eq_true hon
          refine ⟨.ref tl, rfl, .inl ⟨rfl, _, .inl (.inl et11)⟩, .int (0 + (i : Int)), rfl, i, by rw [Int.zero_add], by omega, .str (stepAt t i).2, rfl, .int (0 + (i : Int)), rfl, _, _, rfl, rfl, i + 1, by rw [Int.zero_add] <;> rfl, by omega, by show 3 ≤ 1000; decide, fun y H12 s12 ny ey => ?_⟩
          refine ⟨tl, tv8, .ref y, rfl, rfl, s12 _ _ et11, small_lt (m := 100) (by omega) (by decide), ?_⟩
          refine tie y H12 s12 ?_
          unfold tieOf
          rw [if_pos hon]
          exact ey
        · have hon : ¬ (stepAt t i).1 = "on" := fun z => hon (decide_eq_true z)
          refine ⟨.ref tl, rfl, .inl ⟨rfl, _, .inl (.inl et11)⟩, .int (0 + (i : Int)), rfl, _, _, rfl, rfl, i + 1, by rw [Int.zero_add] <;> rfl, by omega, .str (stepAt t i).2, rfl, .int (0 + (i : Int)), rfl, i, by rw [Int.zero_add], by omega, by show 3 ≤ 1000; decide, fun y H12 s12 ny ey => ?_⟩
          refine ⟨tl, tv8, .ref y, rfl, rfl, s12 _ _ et11, small_lt (m := 100) (by omega) (by decide), ?_⟩
          refine tie y H12 s12 ?_
          unfold tieOf
          rw [if_neg hon]
          exact ey
      · rintro σ H8 ⟨v4, v8, v9, rfl, s8, ek8, dk8, ls8, lt8⟩
        obtain ⟨bs, ebs, eb2, dbs⟩ := Lk.pairs ⟨kv, ek8, dk8⟩
        have hkl : (knotsOf t m).length ≤ 1000 := by unfold knotsOf; rw [List.length_map, List.length_range]; omega
        have htl2 : (tiesOf t).length ≤ 1000 := by unfold tiesOf; rw [List.length_map, List.length_range]; omega
        refine ⟨.ref kl, rfl, kl, bs, rfl, .inl (.inl ebs), dbs, sble_knots eb2 hkl, fun l1 H9 s9 nl1 el1 => ⟨l1, _, rfl, .inl (.inl el1), fun ka o H10 s10 nka od eka => ?_⟩⟩
        have s810 := Same.trans s9 s10
        obtain ⟨bt, ebt, ebt2, dbt⟩ := Lk.pairs (H := H10) (a := tl) (ks := (tiesOf t).map tk) (by
          obtain ⟨vs, a, b⟩ := lt8
          exact ⟨vs, s810 _ _ a, b.mono (Same.tps s810)⟩)
        have hne : ∀ k ∈ tiesOf t, k ≠ [] := fun k hk => by
          obtain ⟨i, _, rfl⟩ := List.mem_map.mp hk
          unfold tieOf
          split <;> simp
        refine ⟨.ref tl, rfl, tl, bt, rfl, .inl (.inl ebt), dbt, sble_ties ebt2 hne htl2, fun l2 H11 s11 nl2 el2 => ⟨l2, _, rfl, .inl (.inl el2), fun tA H12 s12 ntA etA => ⟨by show 2 ≤ 1000; decide, fun ro H13 s13 nro ero => ?_⟩⟩⟩
        refine ⟨0, rfl, by decide, ?_⟩
        obtain ⟨sv, es8, ds8⟩ := ls8
        have s813 := Same.trans (Same.trans (Same.trans s810 s11) s12) s13
        refine ⟨.ref sl, rfl, sl, sv, rfl, .inl (.inl (s813 _ _ es8)), fun st H14 s14 nst' est => ⟨by show 2 ≤ 1000; decide, fun wy H15 s15' nwy ewy => ⟨by show 2 ≤ 1000; decide, fun a H16 s16 na ea => ?_⟩⟩⟩
        have s1116 := Same.trans (Same.trans (Same.trans (Same.trans (Same.trans s11 s12) s13) s14) s15') s16
        have s1016 := s1116
        have s816 := Same.trans s810 s1016
        refine fin (.ref a) H16 (Same.trans s1 (Same.trans s8 s816)) ?_
        obtain ⟨kl', ekl'⟩ : ∃ xs : List (Addr × Knot), srt bs = xs.map fun x => (V.ref x.1, kkey x.2) := pairs_ref (H := H8) (fun b hb => dbs b ((srt_perm bs).mem_iff.mp hb)) (fun b hb => by
          have : b.2 ∈ (knotsOf t m).map kkey := eb2 ▸ List.mem_map_of_mem ((srt_perm bs).mem_iff.mp hb)
          obtain ⟨x, _, e⟩ := List.mem_map.mp this
          exact ⟨x, e.symm⟩) (fun x => ⟨_, rfl⟩)
        obtain ⟨tl', etl'⟩ : ∃ xs : List (Addr × List Str), srt bt = xs.map fun x => (V.ref x.1, tk x.2) := pairs_ref (H := H10) (fun b hb => dbt b ((srt_perm bt).mem_iff.mp hb)) (fun b hb => by
          have : b.2 ∈ (tiesOf t).map tk := ebt2 ▸ List.mem_map_of_mem ((srt_perm bt).mem_iff.mp hb)
          obtain ⟨x, _, e⟩ := List.mem_map.mp this
          exact ⟨x, e.symm⟩) (fun x => ⟨_, rfl⟩)
        have ka16 : H16 ka = some (.frz o (.tup (kl'.map fun x => V.ref x.1))) := by
          rw [s1016 _ _ eka, ekl', List.map_map] <;> rfl
        have ta16 : H16 tA = some (.tup (tl'.map fun x => V.ref x.1)) := by
          rw [s16 _ _ (s15' _ _ (s14 _ _ (s13 _ _ etA))), etl', List.map_map] <;> rfl
        refine ⟨a, ro, ka, tA, .ref wy, o, kl', tl', rfl, ea, s16 _ _ (s15' _ _ (s14 _ _ ero)), ka16, od, ?_, ?_, ?_, ta16, ?_, ?_, ?_, ?_⟩
        · intro x hx
          have : ((V.ref x.1, kkey x.2) : V × NestedKey) ∈ srt bs := ekl' ▸ List.mem_map_of_mem (f := fun x : Addr × Knot => ((V.ref x.1, kkey x.2) : V × NestedKey)) hx
          exact (dbs _ ((srt_perm bs).mem_iff.mp this)).mono (Same.tps s816)
        · have p := (srt_perm bs).map (·.2)
          rw [eb2, ekl', List.map_map] at p
          obtain ⟨L2, p2, e2⟩ := perm_back p
          have : kl'.map (·.2) = L2 := by
            have inj : ∀ a b : Knot, kkey a = kkey b → a = b := fun a b h => by
              obtain ⟨a1, a2⟩ := a
              obtain ⟨b1, b2⟩ := b
              simp only [kkey, tk, NestedKey.tup.injEq, List.cons.injEq, NestedKey.text.injEq] at h
              obtain ⟨h1, h2, _⟩ := h
              have h3 : a2 = b2 := map_inj (fun x y h => NestedKey.text.inj h) h2
              rw [h1, h3]
            have e3 : (kl'.map (·.2)).map kkey = L2.map kkey := by rw [List.map_map]; exact e2
            exact map_inj inj e3
          rw [this]
          exact p2
        · have pw := srt_pw bs
          rw [ekl', List.pairwise_map] at pw
          rw [List.pairwise_map]
          exact pw.imp fun {a b} h => le_name (a := a.2) (b := b.2) h
        · intro x hx
          have : ((V.ref x.1, tk x.2) : V × NestedKey) ∈ srt bt := etl' ▸ List.mem_map_of_mem (f := fun x : Addr × List Str => ((V.ref x.1, tk x.2) : V × NestedKey)) hx
          have d := (dbt _ ((srt_perm bt).mem_iff.mp this)).mono (Same.tps s1116)
          obtain ⟨a', us, e1, e2, e3⟩ := d.tup_inv
          cases e1
          rw [DnAll.texts.mp e3] at e2
          exact e2
        · have p := (srt_perm bt).map (·.2)
          rw [ebt2, etl', List.map_map] at p
          obtain ⟨L2, p2, e2⟩ := perm_back p
          have : tl'.map (·.2) = L2 := by
            have inj : ∀ a b : List Str, tk a = tk b → a = b := fun a b h => by
              simp only [tk, NestedKey.tup.injEq] at h
              exact map_inj (fun x y h => NestedKey.text.inj h) h
            have e3 : (tl'.map (·.2)).map tk = L2.map tk := by rw [List.map_map]; exact e2
            exact map_inj inj e3
          rw [this]
          exact p2
        · have pw := srt_pw bt
          rw [etl', List.pairwise_map] at pw
          exact pw.imp fun {a b} h => h
        · refine .tup (s16 _ _ ewy) (.cons (.text _) (.cons (.tup (s16 _ _ (s15' _ _ est)) (ds8.mono (Same.tps s816))) .nil))
end
end Pk
namespace Pk
set_option autoImplicit false
set_option maxRecDepth 100000
set_option maxHeartbeats 4000000
open PySem PySem.Spec PyProof.Rows L2
theorem sc_within : FnScope ["one", "other", "walk", "parting", "rows", "way"] ["one", "other"] d_within.scope := ⟨rfl, rfl, rfl, by decide +kernel, rfl, by decide +kernel, by decide +kernel⟩
/-- rows and way of a trail -/
def WebR (H : Hp) (ro : Addr) (wy : V) (t : Tr) (m : List Str) : Prop :=
  ∃ (ka ta : Addr) (o : Obj) (kl : List (Addr × Knot)) (tl : List Rw), H ro = some (.tup [.ref ka, .ref ta]) ∧
    H ka = some (.frz o (.tup (kl.map fun x => V.ref x.1))) ∧ o.dict = none ∧ (∀ x ∈ kl, Dn H (.ref x.1) (kkey x.2)) ∧ (kl.map (·.2)).Perm (knotsOf t m) ∧ (kl.map (·.2.1)).Pairwise (fun a b => sle a b = true) ∧
    H ta = some (.tup (tl.map fun x => V.ref x.1)) ∧ (∀ x ∈ tl, H x.1 = some (.tup (x.2.map V.str))) ∧ (tl.map (·.2)).Perm (tiesOf t) ∧ tl.Pairwise (fun a b => ple a b = true) ∧ Dn H wy (wayKey t)
theorem WebR.keep {H H' : Hp} {ro : Addr} {wy : V} {t : Tr} {m : List Str} (h : WebR H ro wy t m) (s : Same H H') : WebR H' ro wy t m := by
  obtain ⟨ka, ta, o, kl, tl, h1, h2, h3, h4, h5, h6, h7, h8, h9, h10, h11⟩ := h
  exact ⟨ka, ta, o, kl, tl, s _ _ h1, s _ _ h2, h3, fun x hx => (h4 x hx).mono (Same.tps s), h5, h6, s _ _ h7, fun x hx => s _ _ (h8 x hx), h9, h10, h11.mono (Same.tps s)⟩
theorem subs_sub {ms ts : List Str} (h : ts ∈ subsF ms) : ts.Sublist ms := by
  induction ms using snoc_ind generalizing ts with
  | h0 =>
    rw [show subsF [] = [[]] from rfl, List.mem_singleton] at h
    rw [h]
    exact .slnil
  | h l x ih =>
    rw [subsF_snoc] at h
    rcases List.mem_append.mp h with h | h
    · exact (ih h).trans (List.sublist_append_left _ _)
    · obtain ⟨z, hz, rfl⟩ := List.mem_map.mp h
      exact (ih hz).append (List.Sublist.refl _)
theorem subs_sorted {p r : Pat} {ts : List Str} (h : ts ∈ subsF (askM p r)) : ts.mergeSort sle = ts ∧ ts.Nodup ∧ ts.Pairwise (fun a b => sle a b = true) := by
  have s := subs_sub h
  have nd : ts.Nodup := s.nodup (nodup_sset _)
  have pw : ts.Pairwise (fun a b => sle a b = true) := (pw_sset _).sublist s
  refine ⟨?_, nd, pw⟩
  rw [sort_nodup nd (fun x => Iff.rfl), sset_id nd pw]
/-- the words of the law: what the trail says of the two patterns -/
theorem parts_line {p r : Pat} {F : List PairS} {cs : List Link} (W : WV p r F cs) {k q : Nat} {T : List Nat} {m : List Str} (hk : F[k]? = some (q, T)) (h1 : Come (machine p) (mkOf m) (fun x => x = q) 1) (h2 : ¬ Come (machine r) (mkOf m) (fun x => x ∈ T) 1) :
    ∃ t, TrailOf cs k t ∧ t.length ≤ k ∧ (∀ e ∈ t, e.1 ∈ subsF (askM p r) ∧ e.2 ∈ askS p r) ∧ Fit (lineOf t m) p 0 t.length ∧ ¬ Fit (lineOf t m) r 0 t.length := by
  obtain ⟨t, ht, hq, hT, hl, he⟩ := W.trail (k + 1) k (by omega) q T hk
  refine ⟨t, ht, hl, he, (fit_line p t m).mpr (h1.mono fun x e => e ▸ hq), fun z => h2 ?_⟩
  have e1 : (fun x => x ∈ T) = reachT (machine r) t := funext fun x => propext (hT x)
  rw [e1]
  exact (fit_line r t m).mp z
section
variable {P : Program} {w : World} {K : PySem.W.Frag} {mg : Str → Option Value} {base : Heap}
def sqWithin : Sq := fun vs H Q => ∃ (v u : V) (p r : Pat), vs = [v, u] ∧ Dn H v (pkey p) ∧ Dn H u (pkey r) ∧ sz p ≤ 8 ∧ sz r ≤ 8 ∧ okK (pkey p) ∧ okK (pkey r) ∧ (pkey p).depth ≤ 40 ∧ (pkey r).depth ≤ 40 ∧ (askM p r).length ≤ 6 ∧ Few p r ∧
  (∀ (F : List PairS) (a b : Addr) (H' : Hp), Same H H' → Yes (machine p) (machine r) (subsF (askM p r)) (askS p r) F → H' a = some (.tup [.str "yes", .ref b]) → Q (.ref a) H') ∧
  (∀ (t : Tr) (m : List Str) (a ro : Addr) (wy : V) (H' : Hp), Same H H' → H' a = some (.tup [.str "no", .ref ro, wy]) → WebR H' ro wy t m → t.length ≤ 64 → (∀ e ∈ t, e.1 ∈ subsF (askM p r) ∧ e.2 ∈ askS p r) → m ∈ subsF (askM p r) → Fit (lineOf t m) p 0 t.length → ¬ Fit (lineOf t m) r 0 t.length → Q (.ref a) H')
theorem ok_within (W : Wd K mg) : Cl P w K mg base "within" ["one", "other"] 21 sqWithin := by
  refine mk_cl W 24 14 (d := d_within) rfl rfl rfl rfl sc_within (fun _ _ _ _ _ _ us hl => match us, hl with | [_, _], _ => rfl) (fun vs H Q h => ?_) (fun f cdv A outer s H vs Q E hr h => ?_)
  · obtain ⟨v, u, p, r, rfl, _⟩ := h
    rfl
  · obtain ⟨v, u, p, r, rfl, hp, hq, zp, zr, op_, or_, dp, dr, hm, few, qY, qN⟩ := h
    have i_Walk : Il P w K mg base "Walk" ["self", "one", "other"] 19 (sqWInit P w K) := ok_Walk_init W
    have m_parting : Ml P w K mg base (He.ga K "Walk") "parting" ["self"] 4 (sqParting P w K) := ok_parting W
    have m_web_by : Ml P w K mg base (He.ga K "Walk") "web_by" ["self", "pair", "marks"] 2 (sqWebBy P w K) := ok_web_by W
    refine ⟨_, (pss_cons (ps_set (i := 2) sc_within.nd rfl (Or.inl rfl) (pe_mk i_Walk (hr.mono (by omega)) (by rfl) (pa_cons (pv 0) (pa_cons (pv 1) pa_nil))))
      (pss_cons (ps_set (i := 3) sc_within.nd rfl (Or.inl rfl) (pe_mt0 (pv 2) (W.cls 53) m_parting (hr.mono (by omega))))
      (pss_cons (ps_if (pt_cmpR op_isN (pv 3) pe_non (nomark _))
        (pss_one (ps_ret (pe_tupN (pa_cons pe_str (pa_cons (pe_callTy n_list (by rfl) (W.free 36) (by decide +kernel) (pa_cons (pe_fld (pv 2) rfl) pa_nil)) pa_nil)))))
        pss_nil)
      (pss_cons (ps_asg (pe_mt (pv 2) (W.cls 53) m_web_by (hr.mono (by omega)) (pa_cons (pe_ix ix_tup (pv 3) pe_int (fun _ _ => rfl)) (pa_cons (pe_ix ix_tup (pv 3) pe_int (fun _ _ => rfl)) pa_nil))) (pg_tup rfl (pgs_cons (pg_name (i := 4) sc_within.nd rfl (Or.inl rfl)) (pgs_cons (pg_name (i := 5) sc_within.nd rfl (Or.inl rfl)) pgs_nil))))
      (pss_one (ps_ret (pe_tupN (pa_cons pe_str (pa_cons (pv 4) (pa_cons (pv 5) pa_nil)))))))))), ?_⟩
    refine ⟨v, rfl, u, rfl, fun x dx nx ndx nex => ?_⟩
    have s0 : Same H (upd (upd H dx (.own x)) x (.ins (He.ga K "Walk") dx [])) := (Same.new ndx).trans (Same.new (by rw [upd_ne nex.symm]; exact nx))
    refine ⟨x, dx, v, u, p, r, rfl, upd_same, hp.mono (Same.tps s0), hq.mono (Same.tps s0), zp, zr, op_, or_, dp, dr, hm, fun n H0 H1 enx kH0 st S1 => ⟨rfl, ?_⟩⟩
    have sH0 : Same H H0 := Kp.same s0 kH0 (by intro b hb; rw [List.mem_singleton.mp hb]; exact nx)
    obtain ⟨L1, SL1, hL1⟩ := id S1
    obtain ⟨dx1, hob1⟩ := SL1.ob
    rw [enx] at hob1
    refine ⟨.ref x, rfl, x, dx1, _, rfl, hob1, wf_parting _ _ _ _ _ _ _, H0, n, p, r, [(0, [0])], [none], by rw [enx], S1, st, WInv.first, few, zp, zr, fun F cs H2 S2 W2 yes => ?_, fun F cs H2 a pa mk k q T m S2 W2 ea dpa hk emk hm' h1 h2 => ?_⟩
    · obtain ⟨L2, SL2, hL2⟩ := id S2
      obtain ⟨dx2, hob2⟩ := SL2.ob
      rw [enx] at hob2
      obtain ⟨fv, ef, df⟩ := SL2.fps
      refine ⟨.non, rfl, rfl, _, rfl, ?_⟩
      refine iteT ?_
      refine ⟨.ref x, rfl, x, _, dx2, _, _, rfl, hob2, W.cls 53, W.noat 64, wf_fp _ _ _ _ _ _ _, n.fp, fv, rfl, .inl (.inl (.inl ef)), fun l H3 s3 nl el => ⟨by show 2 ≤ 1000; decide, fun a H4 s4 na ea => ?_⟩⟩
      exact qY F a l H4 (Same.trans (Same.trans (Same.trans sH0 SL2.same) s3) s4) yes ea
    · obtain ⟨L2, SL2, hL2⟩ := id S2
      obtain ⟨dx2, hob2⟩ := SL2.ob
      rw [enx] at hob2
      refine ⟨.ref a, rfl, rfl, _, rfl, ?_⟩
      refine iteF ?_
      obtain ⟨t, htr, htl, hte, f1, f2⟩ := parts_line W2 hk h1 h2
      have hkF := (List.getElem?_eq_some_iff.mp hk).1
      have h65 := few F cs W2
      refine ⟨.ref x, rfl, x, dx2, _, rfl, hob2, wf_web _ _ _ _ _ _ _, .ref a, rfl, a, _, 0, _, rfl, rfl, .inl (.inl ea), atI_nat (j := 0) rfl, .ref a, rfl, a, _, 1, _, rfl, rfl, .inl (.inl ea), atI_nat (j := 1) rfl, ?_⟩
      refine ⟨H0, n, F, cs, .ref pa, mk, (q, T), k, t, m, by rw [enx], S2, dpa, hk, htr, by omega, by omega, emk, fun e he => ⟨(subs_sorted (hte e he).1).1, ?_⟩, (subs_sorted hm').1, ?_, fun rv H3 s3 wd => ?_⟩
      · have := subsF_small (hte e he).1
        omega
      · have := subsF_small hm'
        omega
      · obtain ⟨b, ro, ka, ta, wy, o, kl, tl, rfl, eb, hrest⟩ := wd.ex
        refine ⟨b, _, rfl, .inl (.inl eb), rfl, .ref ro, _, rfl, wy, [], rfl, rfl, ?_⟩
        refine ⟨.ref ro, rfl, wy, rfl, by show 3 ≤ 1000; decide, fun c H4 s4 nc ec => ?_⟩
        have wr : WebR H3 ro wy t m := ⟨ka, ta, o, kl, tl, hrest⟩
        exact qN t m c ro wy H4 (Same.trans (Same.trans (Same.trans sH0 SL2.same) s3) s4) ec (wr.keep s4) (by omega) hte hm' f1 f2
end
end Pk
namespace Pk
set_option autoImplicit false
set_option maxRecDepth 100000
set_option maxHeartbeats 4000000
open PySem PySem.Spec PyProof.Rows L2
theorem sc_L_feed : FnScope ["_law_script"] ["_law_script"] d_L_feed.scope := ⟨rfl, rfl, rfl, by decide +kernel, rfl, by decide +kernel, by decide +kernel⟩
theorem sc_L_draw : FnScope ["_law_feed_here", "_law_many", "_law_found", "_law_at", "_law_cell", "_law_number"] ["_law_feed_here", "_law_many"] d_L_draw.scope := ⟨rfl, rfl, rfl, by decide +kernel, rfl, by decide +kernel, by decide +kernel⟩
/-- a statement whose ways meet again -/
theorem mergeS {t rest : TS} {D : Ends} {σ : L2.St} {H : Hp} (P : L2.St → Hp → Prop) (h1 : ∀ nx : L2.St → Hp → Prop, (∀ σ' H', P σ' H' → nx σ' H') → t { D with nx := nx } σ H) (h2 : ∀ σ' H', P σ' H' → rest D σ' H') : tSeq t rest D σ H := h1 _ h2
def fkv (cl : Addr) (a l : Int) : List (Key × V) := [(Sum.inr "cells", V.ref cl), (Sum.inr "at", V.int a), (Sum.inr "left", V.int l)]
theorem fkv_cells (cl : Addr) (a l : Int) : valV (fkv cl a l) (Sum.inr "cells" : Key) = some (.ref cl) := by kernel_rfl
theorem fkv_at (cl : Addr) (a l : Int) : valV (fkv cl a l) (Sum.inr "at" : Key) = some (.int a) := by kernel_rfl
theorem fkv_left (cl : Addr) (a l : Int) : valV (fkv cl a l) (Sum.inr "left" : Key) = some (.int l) := by kernel_rfl
theorem fkv_put_at (cl : Addr) (a l b : Int) : putK (fkv cl a l) (Sum.inr "at" : Key) (.int b) = fkv cl b l := by kernel_rfl
theorem fkv_put_left (cl : Addr) (a l b : Int) : putK (fkv cl a l) (Sum.inr "left" : Key) (.int b) = fkv cl a b := by kernel_rfl
theorem fkv_merge (cl : Addr) (a l : Int) : mergeK [] (fkv cl a l) = fkv cl a l := by kernel_rfl
/-- the feed stands; a draws have read the cells -/
def FeedS (H : Hp) (fd cl : Addr) (a : Nat) : Prop := ∃ (ns : List Int) (l : Int), H fd = some (.dK (fkv cl a l)) ∧ H cl = some (.lst (ns.map V.int)) ∧ ns.length ≤ 63 ∧ 0 ≤ l
theorem FeedS.keep {H H' : Hp} {fd cl : Addr} {a : Nat} (f : FeedS H fd cl a) (s : Same H H') : FeedS H' fd cl a := let ⟨ns, l, h1, h2, h3, h4⟩ := f; ⟨ns, l, s _ _ h1, s _ _ h2, h3, h4⟩
theorem FeedS.tps {H H' : Hp} {fd cl : Addr} {a : Nat} (f : FeedS H fd cl a) (k : Kp [fd] H H') : Tps H H' := k.tps fun b hb xs e => by
  rw [List.mem_singleton.mp hb] at e
  obtain ⟨ns, l, h1, _⟩ := f
  rw [h1] at e
  cases e
theorem shaped_ints : ∀ ns : List Int, PyData.canLayAll0 (ns.map fun n : Int => PyData.int n) = true ∧ PyData.depthAll (ns.map fun n : Int => PyData.int n) = 0
  | [] => ⟨rfl, rfl⟩
  | n :: ns => by
    obtain ⟨a, b⟩ := shaped_ints ns
    refine ⟨?_, ?_⟩
    · show (true && PyData.canLayAll0 _) = true
      rw [a] <;> rfl
    · show max 0 (PyData.depthAll _) = 0
      rw [b] <;> rfl
theorem dp_ints {K : PySem.W.Frag} {H : Hp} : ∀ ns : List Int, DpAll K H (ns.map V.int) (ns.map fun n : Int => PyData.int n)
  | [] => .nil
  | n :: ns => .cons (.int _) (dp_ints ns)
def rNeNilI : R2 := fun x y H Q => ∃ (a b : Addr) (ns : List Int), x = .ref a ∧ y = .ref b ∧ H a = some (.lst (ns.map V.int)) ∧ H b = some (.lst []) ∧ Q (.bl (!ns.isEmpty)) H
theorem op_neNilI {X : Cx} (hu : X.A.units + 64 < cLine) : OpR X (compareOp .NotEq) rNeNilI := OpR.imp (op_neD hu) fun x y H Q h => by
  obtain ⟨a, b, ns, rfl, rfl, ha, hb, q⟩ := h
  refine ⟨.list (ns.map fun n : Int => PyData.int n), .list [], .lst (.inl (.inl ha)) (dp_ints ns), .lst (.inl (.inl hb)) .nil, ?_, rfl, ?_⟩
  · unfold SeqAt.shaped
    rw [show PyData.canLay0 (.list (ns.map fun n : Int => PyData.int n)) = PyData.canLayAll0 (ns.map fun n : Int => PyData.int n) from rfl, (shaped_ints ns).1, show PyData.depth (.list (ns.map fun n : Int => PyData.int n)) = PyData.depthAll (ns.map fun n : Int => PyData.int n) + 1 from rfl, (shaped_ints ns).2]
    decide
  · cases ns <;> exact q
section
variable {P : Program} {w : World} {K : PySem.W.Frag} {mg : Str → Option Value} {base : Heap}
def sqFeed (K : PySem.W.Frag) : Sq := fun vs H Q => ∃ (a : Addr) (ns : List Int), vs = [.ref a] ∧ SqL K H a (ns.map V.int) ∧ ns.length ≤ 63 ∧ ∀ (fd cl : Addr) (H' : Hp), Same H H' → H fd = none → FeedS H' fd cl 0 → Q (.ref fd) H'
theorem ok_L_feed (W : Wd K mg) : Cl P w K mg base "_law_feed" ["_law_script"] 1 (sqFeed K) := by
  refine mk_cl W 25 15 (d := d_L_feed) rfl rfl rfl rfl sc_L_feed (fun _ _ _ _ _ _ us hl => match us, hl with | [_], _ => rfl) (fun vs H Q h => ?_) (fun f cdv A outer s H vs Q E hr h => ?_)
  · obtain ⟨a, ns, rfl, _⟩ := h
    rfl
  · obtain ⟨a, ns, rfl, hS, hlen, q⟩ := h
    refine ⟨_, (pss_one (ps_ret (pe_disp (pps_cons pe_str (pe_callTy n_list (by rfl) (W.free 36) (by decide +kernel) (pa_cons (pe_slice n_cut (pv 0) po_none (po_some pe_int)) pa_nil)) (pps_cons pe_str pe_int (pps_cons pe_str pe_int pps_nil))) (by rfl) (by rfl) (fun z => by cases z) (by decide)))), ?_⟩
    intro p np
    have s0 := Same.new (o := .dK []) np
    refine ⟨.ref a, rfl, 63, rfl, a, _, rfl, Same.seq s0 hS, fun b H1 s1 nb eb => ⟨b, _, rfl, .inl (.inl (.inl eb)), fun c H2 s2 nc ec => ?_⟩⟩
    have e1 : cutV (ns.map V.int) none (some 63) = ns.map V.int := by
      rw [show (some 63 : Option Int) = some ((63 : Nat) : Int) from rfl, cut_take, List.take_of_length_le (by rw [List.length_map]; exact hlen)]
    rw [e1] at ec
    have ep : H2 p = some (.dK []) := s2 _ _ (s1 _ _ upd_same)
    refine ⟨ep, fkv c 0 0, rfl, (show 3 ≤ 15 by decide), ?_⟩
    rw [fkv_merge]
    have s02 : Same H H2 := Same.trans (Same.trans s0 s1) s2
    refine q p c _ (But.same np s02 But.upd) np ⟨ns, 0, upd_same, ?_, hlen, by decide⟩
    rw [upd_ne (ne_of ec ep (by intro z; cases z))]
    exact ec
def sqDraw : Sq := fun vs H Q => ∃ (fd cl : Addr) (m a : Nat), vs = [.ref fd, vn m] ∧ FeedS H fd cl a ∧ 1 ≤ m ∧ m ≤ 1000 ∧ a ≤ 100000 ∧ ∀ (r a' : Nat) (H' : Hp), Kp [fd] H H' → FeedS H' fd cl a' → a' ≤ a + 1 → r < m → Q (vn r) H'
theorem ok_L_draw (W : Wd K mg) : Cl P w K mg base "_law_draw" ["_law_feed_here", "_law_many"] 1 sqDraw := by
  refine mk_cl W 26 16 (d := d_L_draw) rfl rfl rfl rfl sc_L_draw (fun _ _ _ _ _ _ us hl => match us, hl with | [_, _], _ => rfl) (fun vs H Q h => ?_) (fun f cdv A outer s H vs Q E hr h => ?_)
  · obtain ⟨fd, cl, m, a, rfl, _⟩ := h
    rfl
  · obtain ⟨fd, cl, m, a, rfl, ⟨ns, l, efd, ecl, hns, hl⟩, hm, hm2, ha, q⟩ := h
    have hu := hr.units
    have hu1 := hu_of hr
    have hmp : (0 : Int) < (m : Int) := by omega
    have fin : ∀ (r : Int) (a' : Nat) (H' : Hp), Kp [fd] H H' → FeedS H' fd cl a' → a' ≤ a + 1 → 0 ≤ r → r < m → Q (.int r) H' := fun r a' H' k f h1 h2 h3 => by
      have e : r = ((r.toNat : Nat) : Int) := by omega
      rw [e]
      exact q r.toNat a' H' k f h1 (by omega)
    have gl : ∀ {Hx : Hp} {c : Addr} {a l : Int}, Hx fd = some (.dK (fkv c a l)) → DGet Hx fd (.str "left") (some (.int l)) := fun {Hx c a l} h => fkv_left c a l ▸ DGet.k (k := (Sum.inr "left" : Key)) h
    have ga : ∀ {Hx : Hp} {c : Addr} {a l : Int}, Hx fd = some (.dK (fkv c a l)) → DGet Hx fd (.str "at") (some (.int a)) := fun {Hx c a l} h => fkv_at c a l ▸ DGet.k (k := (Sum.inr "at" : Key)) h
    have gc : ∀ {Hx : Hp} {c : Addr} {a l : Int}, Hx fd = some (.dK (fkv c a l)) → DGet Hx fd (.str "cells") (some (.ref c)) := fun {Hx c a l} h => fkv_cells c a l ▸ DGet.k (k := (Sum.inr "cells" : Key)) h
    have pl : ∀ {Hx : Hp} {c : Addr} {a l b : Int}, Hx fd = some (.dK (fkv c a l)) → DPut Hx fd (.str "left") (.int b) (upd Hx fd (.dK (fkv c a b))) := fun {Hx c a l b} h => fkv_put_left c a l b ▸ DPut.k (k := (Sum.inr "left" : Key)) (v := .int b) h (by show 3 < sizeLine; decide)
    have pa : ∀ {Hx : Hp} {c : Addr} {a l b : Int}, Hx fd = some (.dK (fkv c a l)) → DPut Hx fd (.str "at") (.int b) (upd Hx fd (.dK (fkv c b l))) := fun {Hx c a l b} h => fkv_put_at c a l b ▸ DPut.k (k := (Sum.inr "at" : Key)) (v := .int b) h (by show 3 < sizeLine; decide)
    have ncf : cl ≠ fd := ne_of ecl efd (by intro z; cases z)
    have kf : ∀ {Hx : Hp} {o : HO}, Kp [fd] Hx (upd Hx fd o) := Kp.mut (by simp)
    refine ⟨_, (pss_cons (ps_if (pt_cmpR op_gt (pe_dget hu1 (pv 0) pe_str (fun _ _ => rfl)) pe_int (nomark _))
        (pss_cons (ps_set (i := 2) sc_L_draw.nd rfl (Or.inl rfl) (pe_op op_mod (pe_dget hu1 (pv 0) pe_str (fun _ _ => rfl)) (pv 1)))
        (pss_cons (ps_dput hu1 (pv 0) pe_str (pe_op op_fdiv (pe_dget hu1 (pv 0) pe_str (fun _ _ => rfl)) (pv 1)) rfl)
        (pss_one (ps_ret (pv 2)))))
        pss_nil)
      (pss_cons (ps_set (i := 3) sc_L_draw.nd rfl (Or.inl rfl) (pe_dget hu1 (pv 0) pe_str (fun _ _ => rfl)))
      (pss_cons (ps_dput hu1 (pv 0) pe_str (pe_op op_add (pv 3) pe_int) rfl)
      (pss_cons (ps_set (i := 4) sc_L_draw.nd rfl (Or.inl rfl) (pv 3))
      (pss_cons (ps_if (pt_cmpR (op_neNilI hu) (pe_dget hu1 (pv 0) pe_str (fun _ _ => rfl)) (pe_lstN pa_nil) (nomark _))
        (pss_one (ps_set (i := 4) sc_L_draw.nd rfl (Or.inl rfl) (pe_ix ix_list (pe_dget hu1 (pv 0) pe_str (fun _ _ => rfl)) (pe_op op_mod (pv 3) (pe_callB call_len (by rfl) (W.free 32) PySem.boot_len (pa_cons (pe_dget hu1 (pv 0) pe_str (fun _ _ => rfl)) pa_nil))) (fun _ _ => rfl))))
        pss_nil)
      (pss_cons (ps_if (pt_cmpR op_ge (pv 4) (pe_op op_pow pe_int pe_int) (nomark _))
        (pss_cons (ps_dput hu1 (pv 0) pe_str (pe_op op_fdiv (pv 4) (pv 1)) rfl)
        (pss_one (ps_ret (pe_op op_mod (pv 4) (pv 1)))))
        pss_nil)
      (pss_cons (ps_set (i := 5) sc_L_draw.nd rfl (Or.inl rfl) (pe_op op_mod (pe_op op_mul (pe_op op_add (pe_op op_add (pe_op op_add (pe_op op_mod (pv 4) pe_int) (pe_op op_mul (pe_op op_mul pe_int (pv 3)) (pv 3))) (pe_op op_mul pe_int (pv 3))) pe_int) pe_int) pe_int))
      (pss_cons (ps_set (i := 5) sc_L_draw.nd rfl (Or.inl rfl) (pe_op op_mod (pe_op op_mul (pe_op op_add (pe_op op_mul (pv 5) (pv 5)) (pv 3)) pe_int) pe_int))
      (pss_one (ps_ret (pe_op op_mod (pe_op op_fdiv (pv 5) pe_int) (pv 1)))))))))))), ?_⟩
    refine ⟨.ref fd, rfl, fd, _, rfl, gl efd, _, _, rfl, rfl, _, rfl, ?_⟩
    refine ite2 (fun hgt => ?_) (fun hgt => ?_)
    · refine ⟨.ref fd, rfl, fd, _, rfl, gl efd, vn m, rfl, _, _, rfl, rfl, hmp, ?_⟩
      refine ⟨.ref fd, rfl, fd, _, rfl, gl efd, vn m, rfl, _, _, rfl, rfl, ⟨hmp, by omega⟩, .ref fd, rfl, fd, _, rfl, pl efd, ?_⟩
      refine ⟨_, rfl, fin _ a _ kf ⟨ns, l / m, upd_same, by rw [upd_ne ncf]; exact ecl, hns, Int.ediv_nonneg hl (by omega)⟩ (by omega) (Int.emod_nonneg _ (by omega)) (Int.emod_lt_of_pos _ hmp)⟩
    · refine ⟨.ref fd, rfl, fd, _, rfl, ga efd, ?_⟩
      refine ⟨_, rfl, _, _, rfl, rfl, .ref fd, rfl, fd, _, rfl, pa efd, ?_⟩
      have efd2 : (upd H fd (.dK (fkv cl ((a : Int) + 1) l))) fd = some (.dK (fkv cl ((a + 1 : Nat) : Int) l)) := upd_same
      have ecl2 : (upd H fd (.dK (fkv cl ((a : Int) + 1) l))) cl = some (.lst (ns.map V.int)) := by rw [upd_ne ncf]; exact ecl
      obtain ⟨H2, e2⟩ : ∃ H2, H2 = upd H fd (.dK (fkv cl ((a : Int) + 1) l)) := ⟨_, rfl⟩
      have k2 : Kp [fd] H H2 := by rw [e2]; exact kf
      rw [← e2] at efd2 ecl2 ⊢
      refine ⟨_, rfl, ?_⟩
      dsimp only [gName]
      refine mergeS (fun σ' H' => Same H2 H' ∧ ∃ cell : Int, σ' = [some (.ref fd), some (vn m), none, some (vn a), some (.int cell), none]) (fun nx hnx => ?_) ?_
      · refine ⟨.ref fd, rfl, fd, _, rfl, gc efd2, Nat.zero_le _, fun e H3 s3 ne ee => ⟨cl, e, ns, rfl, rfl, s3 _ _ ecl2, ee, _, rfl, ?_⟩⟩
        cases hn : ns.isEmpty with
        | true =>
          refine iteF ?_
          exact hnx _ _ ⟨s3, (a : Int), rfl⟩
        | false =>
          refine iteT ?_
          have hpos : 0 < ns.length := by
            cases ns with
            | nil => cases hn
            | cons x r => simp
          have hj : a % ns.length < ns.length := Nat.mod_lt _ hpos
          have e4 : ((a : Int) % ((ns.length : Nat) : Int)) = ((a % ns.length : Nat) : Int) := by omega
          refine ⟨.ref fd, rfl, fd, _, rfl, gc (s3 _ _ efd2), vn a, rfl, .ref fd, rfl, fd, _, rfl, gc (s3 _ _ efd2), .ref cl, ns.length, rfl, .inl ⟨_, .inl (.inl (s3 _ _ ecl2)), by rw [List.length_map]⟩, _, _, rfl, rfl, (show (0 : Int) < (ns.length : Int) by omega), cl, _, _, .int (ns[a % ns.length]'hj), rfl, rfl, .inl (.inl (s3 _ _ ecl2)), ?_, hnx _ _ ⟨s3, _, rfl⟩⟩
          rw [e4]
          refine atI_nat ?_
          rw [List.getElem?_map, List.getElem?_eq_getElem hj] <;> rfl
      · rintro σ' H3 ⟨s3, cell, rfl⟩
        have efd3 := s3 _ _ efd2
        have ecl3 := s3 _ _ ecl2
        have k3 : Kp [fd] H H3 := k2.trans (Kp.of s3)
        have F3 : FeedS H3 fd cl (a + 1) := ⟨ns, l, efd3, ecl3, hns, hl⟩
        refine ⟨.int cell, rfl, _, _, rfl, rfl, ⟨by decide, by decide, by decide⟩, _, _, rfl, rfl, _, rfl, ?_⟩
        refine ite2 (fun hge => ?_) (fun hge => ?_)
        · have hge := of_decide_eq_true hge
          have h10 : (0 : Int) ≤ 10 ^ (18 : Int).toNat := by decide
          have hc0 : 0 ≤ cell := by omega
          refine ⟨_, rfl, vn m, rfl, _, _, rfl, rfl, ⟨hmp, by omega⟩, .ref fd, rfl, fd, _, rfl, pl efd3, ?_⟩
          refine ⟨_, rfl, vn m, rfl, _, _, rfl, rfl, hmp, fin _ (a + 1) _ (k3.trans kf) ⟨ns, cell / m, upd_same, by rw [upd_ne ncf]; exact ecl3, hns, Int.ediv_nonneg hc0 (by omega)⟩ (by omega) (Int.emod_nonneg _ (by omega)) (Int.emod_lt_of_pos _ hmp)⟩
        · have ha2 : (a : Int) ≤ 100000 := by omega
          refine ⟨_, rfl, _, _, rfl, rfl, (show (0 : Int) < 1000003 by decide), _, rfl, _, _, rfl, rfl, .inl ⟨by decide, by decide⟩, _, rfl, _, _, rfl, rfl, .inr ⟨by omega, by omega⟩, _, _, rfl, rfl, _, rfl, _, _, rfl, rfl, .inl ⟨by decide, by decide⟩, _, _, rfl, rfl, _, _, rfl, rfl, _, _, rfl, rfl, .inr ⟨by decide, by decide⟩, _, _, rfl, rfl, (show (0 : Int) < 999983 by decide), ?_⟩
          have hN : ∀ x : Int, 0 ≤ x % 999983 ∧ x % 999983 < 999983 := fun x => ⟨Int.emod_nonneg _ (by decide), Int.emod_lt_of_pos _ (by decide)⟩
          refine ⟨_, rfl, _, rfl, _, _, rfl, rfl, .inl ⟨Int.lt_of_lt_of_le (show (-(2 ^ 64) : Int) < 0 by decide) (hN _).1, Int.lt_trans (hN _).2 (by decide)⟩, _, rfl, _, _, rfl, rfl, _, _, rfl, rfl, .inr ⟨by decide, by decide⟩, _, _, rfl, rfl, (show (0 : Int) < 2147483629 by decide), ?_⟩
          refine ⟨_, rfl, _, _, rfl, rfl, ⟨by decide, by decide⟩, vn m, rfl, _, _, rfl, rfl, hmp, fin _ (a + 1) _ k3 F3 (by omega) (Int.emod_nonneg _ (by omega)) (Int.emod_lt_of_pos _ hmp)⟩
end
end Pk
namespace Pk
set_option autoImplicit false
set_option maxRecDepth 100000
set_option maxHeartbeats 4000000
open PySem PySem.Spec PyProof.Rows L2
theorem sc_L_names : FnScope ["_law_feed_here", "_law_many", "_law_some", "_law_names_here", "_law_at"] ["_law_feed_here", "_law_many"] d_L_names.scope := ⟨rfl, rfl, rfl, by decide +kernel, rfl, by decide +kernel, by decide +kernel⟩
theorem sc_L_leaf : FnScope ["_law_feed_here", "_law_words", "_law_marks", "_law_way"] ["_law_feed_here", "_law_words", "_law_marks"] d_L_leaf.scope := ⟨rfl, rfl, rfl, by decide +kernel, rfl, by decide +kernel, by decide +kernel⟩
def nameT1 : List Str := ["a", "ab", "abc", "b", "ba", "bab", "c"]
def nameT2 : List Str := ["on", "back", "at", "stay", "many", "then", "tie"]
def nameT3 : List Str := ["k", "w", "xxxxxxxx", "xxxxxxx", "m", "q", "z"]
def nameT : List Str := nameT1 ++ (nameT2 ++ nameT3)
theorem cut_drop (xs : List V) (k : Nat) : cutV xs (some (k : Int)) none = xs.drop k := by
  unfold cutV
  rw [HT.sIx_none, HT.sIx_nat]
  rcases Nat.le_total k xs.length with h | h
  · rw [Nat.min_eq_left h, List.take_of_length_le (by rw [List.length_drop]; exact Nat.le_refl _)]
  · rw [Nat.min_eq_right h, List.drop_length, List.drop_eq_nil_of_le h] <;> simp
/-- the leaves take their words and marks from these -/
def LeafIn (ws ms : List Str) : Pat → Prop
  | .stay => True
  | .step s v => (s = "on" ∨ s = "back") ∧ (v = star ∨ v ∈ ws)
  | .att m => m ∈ ms
  | .off m => m ∈ ms
  | _ => False
section
variable {P : Program} {w : World} {K : PySem.W.Frag} {mg : Str → Option Value} {base : Heap}
def sqNames : Sq := fun vs H Q => ∃ (fd cl : Addr) (m a : Nat), vs = [.ref fd, vn m] ∧ FeedS H fd cl a ∧ m ≤ 7 ∧ a ≤ 90000 ∧
  ∀ (l : Addr) (ts : List Str) (a' : Nat) (H' : Hp), Kp [fd] H H' → FeedS H' fd cl a' → a' ≤ a + 2 → H l = none → H' l = some (.lst (ts.map V.str)) → ts.length ≤ m → (∀ x ∈ ts, x ∈ nameT) → Q (.ref l) H'
theorem ok_L_names (W : Wd K mg) : Cl P w K mg base "_law_names" ["_law_feed_here", "_law_many"] 2 sqNames := by
  refine mk_cl W 27 17 (d := d_L_names) rfl rfl rfl rfl sc_L_names (fun _ _ _ _ _ _ us hl => match us, hl with | [_, _], _ => rfl) (fun vs H Q h => ?_) (fun f cdv A outer s H vs Q E hr h => ?_)
  · obtain ⟨fd, cl, m, a, rfl, _⟩ := h
    rfl
  · obtain ⟨fd, cl, m, a, rfl, F, hm, ha, q⟩ := h
    have c_L_draw : Cl P w K mg base "_law_draw" ["_law_feed_here", "_law_many"] 1 sqDraw := ok_L_draw W
    refine ⟨_, (pss_cons (ps_set (i := 2) sc_L_names.nd rfl (Or.inl rfl) (pe_lstN (pa_cons (pe_lstN (pa_cons pe_str (pa_cons pe_str (pa_cons pe_str (pa_cons pe_str (pa_cons pe_str (pa_cons pe_str (pa_cons pe_str pa_nil)))))))) (pa_cons (pe_lstN (pa_cons pe_str (pa_cons pe_str (pa_cons pe_str (pa_cons pe_str (pa_cons pe_str (pa_cons pe_str (pa_cons pe_str pa_nil)))))))) pa_nil))))
      (pss_cons (ps_expr (pe_bm PySem.F.plainAttrs_list PySem.F.slot_list_append PySem.F.type_list_append mt_append (pv 2) (pa_cons (pe_lstN (pa_cons pe_str (pa_cons pe_str (pa_cons pe_str (pa_cons pe_str (pa_cons pe_str (pa_cons pe_str (pa_cons pe_str pa_nil)))))))) pa_nil)))
      (pss_cons (ps_set (i := 3) sc_L_names.nd rfl (Or.inl rfl) (pe_ix ix_list (pv 2) (pe_fn c_L_draw (hr.mono (by omega)) (by rfl) (pa_cons (pv 0) (pa_cons pe_int pa_nil))) (fun _ _ => rfl)))
      (pss_cons (ps_set (i := 4) sc_L_names.nd rfl (Or.inl rfl) (pe_fn c_L_draw (hr.mono (by omega)) (by rfl) (pa_cons (pv 0) (pa_cons pe_int pa_nil))))
      (pss_one (ps_ret (pe_slice n_cut (pe_op n_cat (pe_slice n_cut (pv 3) (po_some (pv 4)) po_none) (pe_slice n_cut (pv 3) po_none (po_some (pv 4)))) po_none (po_some (pv 1))))))))), ?_⟩
    refine ⟨by show 7 ≤ 1000; decide, fun l1 H1 s1 n1 e1 => ⟨by show 7 ≤ 1000; decide, fun l2 H2 s2 n2 e2 => ⟨by show 2 ≤ 1000; decide, fun so H3 s3 nso eso => ?_⟩⟩⟩
    refine ⟨.ref so, rfl, .inl ⟨rfl, _, .inl (.inl eso)⟩, by show 7 ≤ 1000; decide, fun l3 H4 s4 n3 e3 => ?_⟩
    have eso4 := s4 _ _ eso
    refine ⟨so, _, .ref l3, rfl, rfl, eso4, by show 2 < sizeLine; decide, ?_⟩
    obtain ⟨H5, e5⟩ : ∃ H5, H5 = upd H4 so (.lst ([.ref l1, .ref l2] ++ [.ref l3])) := ⟨_, rfl⟩
    have s05 : Same H H5 := by
      rw [e5]
      exact But.same (Same.free (Same.trans s1 s2) nso) (Same.trans (Same.trans (Same.trans s1 s2) s3) s4) But.upd
    have es5 : H5 so = some (.lst [.ref l1, .ref l2, .ref l3]) := by rw [e5]; exact upd_same
    have n1so : l1 ≠ so := ne_of_none (s2 _ _ e1) nso
    have n2so : l2 ≠ so := ne_of_none e2 nso
    have n3so : l3 ≠ so := (ne_of_none eso n3).symm
    have e15 : H5 l1 = some (.lst (nameT1.map V.str)) := by rw [e5, upd_ne n1so]; exact s4 _ _ (s3 _ _ (s2 _ _ e1))
    have e25 : H5 l2 = some (.lst (nameT2.map V.str)) := by rw [e5, upd_ne n2so]; exact s4 _ _ (s3 _ _ e2)
    have e35 : H5 l3 = some (.lst (nameT3.map V.str)) := by rw [e5, upd_ne n3so]; exact e3
    have F5 := F.keep s05
    rw [show upd H4 so (.lst ([.ref l1, .ref l2] ++ [.ref l3])) = H5 from e5.symm]
    refine ⟨.ref so, rfl, .ref fd, rfl, fd, cl, 3, a, rfl, F5, by decide, by decide, by omega, fun r a1 H6 k6 F6 h61 h62 => ?_⟩
    have nfd : ∀ {b : Addr} {xs : List V}, H5 b = some (.lst xs) → b ∉ [fd] := fun {b xs} h hm => by
      rw [List.mem_singleton.mp hm] at h
      obtain ⟨_, _, h1, _⟩ := F5
      rw [h1] at h
      cases h
    obtain ⟨l, tb, el, etb, hsub, h7⟩ : ∃ (l : Addr) (tb : List Str), ([.ref l1, .ref l2, .ref l3] : List V)[r]? = some (.ref l) ∧ H6 l = some (.lst (tb.map V.str)) ∧ (∀ x ∈ tb, x ∈ nameT) ∧ tb.length = 7 := by
      rcases r with _ | _ | _ | r
      · exact ⟨l1, nameT1, rfl, k6 _ _ e15 (nfd e15), fun x hx => List.mem_append_left _ hx, rfl⟩
      · exact ⟨l2, nameT2, rfl, k6 _ _ e25 (nfd e25), fun x hx => List.mem_append_right _ (List.mem_append_left _ hx), rfl⟩
      · exact ⟨l3, nameT3, rfl, k6 _ _ e35 (nfd e35), fun x hx => List.mem_append_right _ (List.mem_append_right _ hx), rfl⟩
      · omega
    refine ⟨so, _, r, .ref l, rfl, rfl, .inl (.inl (k6 _ _ es5 (nfd es5))), atI_nat el, ?_⟩
    refine ⟨.ref fd, rfl, fd, cl, 7, a1, rfl, F6, by decide, by decide, by omega, fun r2 a2 H7 k7 F7 h71 h72 => ?_⟩
    have nfd6 : l ∉ [fd] := fun hm => by
      rw [List.mem_singleton.mp hm] at etb
      obtain ⟨_, _, h1, _⟩ := F6
      rw [h1] at etb
      cases etb
    have el7 := k7 _ _ etb nfd6
    refine ⟨.ref l, rfl, vn r2, rfl, (r2 : Int), rfl, l, _, rfl, .inl (.inl el7), fun b H8 s8 nb eb => ?_⟩
    refine ⟨.ref l, rfl, vn r2, rfl, (r2 : Int), rfl, l, _, rfl, .inl (.inl (s8 _ _ el7)), fun c H9 s9 nc ec => ?_⟩
    rw [cut_drop, ← List.map_drop] at eb
    rw [cut_take, ← List.map_take] at ec
    refine ⟨b, c, _, _, rfl, rfl, s9 _ _ eb, ec, by rw [List.length_map, List.length_map, List.length_drop, List.length_take]; omega, fun d H10 s10 nd ed => ?_⟩
    rw [← List.map_append] at ed
    refine ⟨vn m, rfl, (m : Int), rfl, d, _, rfl, .inl (.inl ed), fun z H11 s11 nz ez => ?_⟩
    rw [cut_take, ← List.map_take] at ez
    have s711 := Same.trans (Same.trans (Same.trans s8 s9) s10) s11
    have kk : Kp [fd] H H7 := ((Kp.of s05).trans k6).trans k7
    have nz0 : H z = none := by
      have h7z : H7 z = none := Same.free (Same.trans (Same.trans s8 s9) s10) nz
      cases hz : H z with
      | none => rfl
      | some o =>
        by_cases hzf : z = fd
        · obtain ⟨_, _, h1, _⟩ := F7
          rw [hzf, h1] at h7z
          cases h7z
        · have := kk z o hz (by simpa using hzf)
          rw [h7z] at this
          cases this
    refine q z _ a2 H11 (kk.trans (Kp.of s711)) (F7.keep s711) (by omega) nz0 ez ?_ fun x hx => ?_
    · rw [List.length_take]
      omega
    · rcases List.mem_append.mp (List.mem_of_mem_take hx) with h | h
      · exact hsub x (List.mem_of_mem_drop h)
      · exact hsub x (List.mem_of_mem_take h)
end
end Pk
namespace Pk
set_option autoImplicit false
set_option maxRecDepth 100000
set_option maxHeartbeats 4000000
open PySem PySem.Spec PyProof.Rows L2
def rNeNilT : R2 := fun x y H Q => ∃ (a b : Addr) (ts : List Str), x = .ref a ∧ y = .ref b ∧ H a = some (.lst (ts.map V.str)) ∧ H b = some (.lst []) ∧ (∀ t ∈ ts, PyData.strOk t = true) ∧ Q (.bl (!ts.isEmpty)) H
theorem shaped_txts : ∀ ns : List Str, (∀ t ∈ ns, PyData.strOk t = true) → PyData.canLayAll0 (ns.map PyData.str) = true ∧ PyData.depthAll (ns.map PyData.str) = 0
  | [], _ => ⟨rfl, rfl⟩
  | n :: ns, h => by
    obtain ⟨a, b⟩ := shaped_txts ns fun t ht => h t (List.mem_cons_of_mem _ ht)
    refine ⟨?_, ?_⟩
    · show (PyData.strOk n && PyData.canLayAll0 _) = true
      rw [a, h n List.mem_cons_self] <;> rfl
    · show max 0 (PyData.depthAll _) = 0
      rw [b] <;> rfl
theorem dp_txts {K : PySem.W.Frag} {H : Hp} : ∀ ns : List Str, DpAll K H (ns.map V.str) (ns.map PyData.str)
  | [] => .nil
  | n :: ns => .cons (.str _) (dp_txts ns)
theorem shaped_lst {ns : List Str} (h : ∀ t ∈ ns, PyData.strOk t = true) : SeqAt.shaped (.list (ns.map PyData.str)) = true := by
  unfold SeqAt.shaped
  rw [show PyData.canLay0 (.list (ns.map PyData.str)) = PyData.canLayAll0 (ns.map PyData.str) from rfl, (shaped_txts ns h).1, show PyData.depth (.list (ns.map PyData.str)) = PyData.depthAll (ns.map PyData.str) + 1 from rfl, (shaped_txts ns h).2]
  decide
theorem op_neNilT {X : Cx} (hu : X.A.units + 64 < cLine) : OpR X (compareOp .NotEq) rNeNilT := OpR.imp (op_neD hu) fun x y H Q h => by
  obtain ⟨a, b, ns, rfl, rfl, ha, hb, hok, q⟩ := h
  refine ⟨.list (ns.map PyData.str), .list [], .lst (.inl (.inl ha)) (dp_txts ns), .lst (.inl (.inl hb)) .nil, shaped_lst hok, rfl, ?_⟩
  cases ns <;> exact q
theorem nameT_ok : ∀ x ∈ nameT, PyData.strOk x = true := by decide +kernel
theorem FeedS.nl {H : Hp} {fd cl : Addr} {a : Nat} (f : FeedS H fd cl a) {b : Addr} {o : HO} (h : H b = some o) (ho : ∀ kvs, o ≠ .dK kvs) : b ∉ [fd] := fun hm => by
  rw [List.mem_singleton.mp hm] at h
  obtain ⟨_, _, h1, _⟩ := f
  rw [h1] at h
  exact ho _ (Option.some.inj h).symm
section
variable {P : Program} {w : World} {K : PySem.W.Frag} {mg : Str → Option Value} {base : Heap}
def sqLeaf : Sq := fun vs H Q => ∃ (fd cl wl ml : Addr) (ws ms : List Str) (a : Nat), vs = [.ref fd, .ref wl, .ref ml] ∧ FeedS H fd cl a ∧ a ≤ 90000 ∧ H wl = some (.lst (ws.map V.str)) ∧ H ml = some (.lst (ms.map V.str)) ∧ ws.length ≤ 10 ∧ ms.length ≤ 10 ∧ (∀ x ∈ ms, x ∈ nameT) ∧
  ∀ (v : V) (l : Pat) (a' : Nat) (H' : Hp), Kp [fd] H H' → FeedS H' fd cl a' → a' ≤ a + 2 → Dn H' v (pkey l) → LeafIn ws ms l → Q v H'
theorem ok_L_leaf (W : Wd K mg) : Cl P w K mg base "_law_leaf" ["_law_feed_here", "_law_words", "_law_marks"] 2 sqLeaf := by
  refine mk_cl W 28 18 (d := d_L_leaf) rfl rfl rfl rfl sc_L_leaf (fun _ _ _ _ _ _ us hl => match us, hl with | [_, _, _], _ => rfl) (fun vs H Q h => ?_) (fun f cdv A outer s H vs Q E hr h => ?_)
  · obtain ⟨fd, cl, wl, ml, ws, ms, a, rfl, _⟩ := h
    rfl
  · obtain ⟨fd, cl, wl, ml, ws, ms, a, rfl, F, ha, ew, em, lw, lm, hmn, q⟩ := h
    have hu := hr.units
    have c_L_draw : Cl P w K mg base "_law_draw" ["_law_feed_here", "_law_many"] 1 sqDraw := ok_L_draw W
    refine ⟨_, (pss_cons (ps_set (i := 3) sc_L_leaf.nd rfl (Or.inl rfl) (pe_fn c_L_draw (hr.mono (by omega)) (by rfl) (pa_cons (pv 0) (pa_cons pe_int pa_nil))))
      (pss_cons (ps_if (pt_cmpR op_eq (pv 3) pe_int (nomark _))
        (pss_one (ps_ret (pe_tupN (pa_cons pe_str pa_nil))))
        pss_nil)
      (pss_cons (ps_if (PW.pt (pw_and (pt_cmpR op_lt (pv 3) pe_int (nomark _)) (pw_and1 (pt_cmpR (op_neNilT hu) (pv 2) (pe_lstN pa_nil) (nomark _)))))
        (pss_one (ps_ret (pe_tupN (pa_cons (pe_ix ix_list (pe_lstN (pa_cons pe_str (pa_cons pe_str pa_nil))) (pe_op op_sub (pv 3) pe_int) (fun _ _ => rfl)) (pa_cons (pe_ix ix_list (pv 2) (pe_fn c_L_draw (hr.mono (by omega)) (by rfl) (pa_cons (pv 0) (pa_cons (pe_callB call_len (by rfl) (W.free 32) PySem.boot_len (pa_cons (pv 2) pa_nil)) pa_nil))) (fun _ _ => rfl)) pa_nil)))))
        pss_nil)
      (pss_one (ps_ret (pe_tupN (pa_cons pe_str (pa_cons (pe_ix ix_list (pe_lstN (pa_cons pe_str (pa_cons pe_str (pa_cons pe_str pa_nil)))) (pe_op op_mod (pv 3) pe_int) (fun _ _ => rfl)) (pa_cons (pe_ix ix_list (pe_op n_cat (pv 1) (pe_lstN (pa_cons pe_str pa_nil))) (pe_fn c_L_draw (hr.mono (by omega)) (by rfl) (pa_cons (pv 0) (pa_cons (pe_op op_add (pe_callB call_len (by rfl) (W.free 32) PySem.boot_len (pa_cons (pv 1) pa_nil)) pe_int) pa_nil))) (fun _ _ => rfl)) pa_nil))))))))), ?_⟩
    refine ⟨.ref fd, rfl, fd, cl, 9, a, rfl, F, by decide, by decide, by omega, fun r a1 H1 k1 F1 h1 h2 => ?_⟩
    have ew1 := k1 _ _ ew (F.nl ew (by intro k z; cases z))
    have em1 := k1 _ _ em (F.nl em (by intro k z; cases z))
    refine ⟨vn r, rfl, rfl, _, rfl, ?_⟩
    refine ite2 (fun h0 => ?_) (fun h0 => ?_)
    · refine ⟨by show 1 ≤ 1000; decide, fun t H2 s2 nt et => ?_⟩
      exact q _ .stay a1 H2 (k1.trans (Kp.of s2)) (F1.keep s2) (by omega) (.tup et (.cons (.text _) .nil)) trivial
    · have hr0 : r ≠ 0 := fun z => h0 (by rw [z]; exact decide_eq_true rfl)
      dsimp only [tNext]
      refine mergeT (fun b H' => Same H1 H' ∧ b = (decide (r < 3) && !ms.isEmpty)) (fun Q' hQ => ?_) ?_
      · refine ⟨vn r, rfl, _, _, rfl, rfl, _, rfl, ?_⟩
        refine ite2 (fun h3 => ?_) (fun h3 => ?_)
        · have h3 : r < 3 := by have := of_decide_eq_true h3; omega
          refine ⟨.ref ml, rfl, Nat.zero_le _, fun e H2 s2 ne ee => ⟨ml, e, ms, rfl, rfl, s2 _ _ em1, ee, fun t ht => nameT_ok t (hmn t ht), _, rfl, ?_⟩⟩
          refine hQ _ _ ⟨s2, ?_⟩
          rw [decide_eq_true h3, Bool.true_and]
        · have h3 : ¬ r < 3 := fun z => h3 (decide_eq_true (by omega))
          refine hQ _ _ ⟨Same.refl _, ?_⟩
          rw [decide_eq_false h3, Bool.false_and]
      rintro b H2 ⟨s2, eb⟩
      have F2 := F1.keep s2
      have k2 : Kp [fd] H H2 := k1.trans (Kp.of s2)
      have ew2 := s2 _ _ ew1
      have em2 := s2 _ _ em1
      cases b with
      | true =>
        refine iteT ?_
        obtain ⟨h3, h4⟩ := Bool.and_eq_true_iff.mp eb.symm
        have h3 := of_decide_eq_true h3
        have hmp : 0 < ms.length := by
          cases ms with
          | nil => cases h4
          | cons x xs => simp
        refine ⟨by show 2 ≤ 1000; decide, fun l H3 s3 nl el => ?_⟩
        obtain ⟨tg, etg, htg⟩ : ∃ tg : Str, atI [V.str "at", V.str "off"] ((r : Int) - 1) = some (.str tg) ∧ ((r = 1 ∧ tg = "at") ∨ (r = 2 ∧ tg = "off")) := by
          have : r = 1 ∨ r = 2 := by omega
          rcases this with rfl | rfl
          · exact ⟨_, rfl, .inl ⟨rfl, rfl⟩⟩
          · exact ⟨_, rfl, .inr ⟨rfl, rfl⟩⟩
        refine ⟨vn r, rfl, _, _, rfl, rfl, l, _, _, .str tg, rfl, rfl, .inl (.inl el), etg, ?_⟩
        have em3 := s3 _ _ em2
        refine ⟨.ref ml, rfl, .ref fd, rfl, .ref ml, rfl, .ref ml, ms.length, rfl, .inl ⟨_, .inl (.inl em3), by rw [List.length_map]⟩, fd, cl, ms.length, a1, rfl, F2.keep s3, hmp, by omega, by omega, fun r2 a2 H4 k4 F4 h41 h42 => ?_⟩
        have em4 := k4 _ _ em3 ((F2.keep s3).nl em3 (by intro k z; cases z))
        refine ⟨ml, _, r2, .str ms[r2], rfl, rfl, .inl (.inl em4), atI_nat (by rw [List.getElem?_map, List.getElem?_eq_getElem h42] <;> rfl), by show 2 ≤ 1000; decide, fun t H5 s5 nt et => ?_⟩
        have kk : Kp [fd] H H5 := ((k2.trans (Kp.of s3)).trans k4).trans (Kp.of s5)
        rcases htg with ⟨_, rfl⟩ | ⟨_, rfl⟩
        · exact q _ (.att ms[r2]) a2 H5 kk (F4.keep s5) (by omega) (.tup et (.cons (.text _) (.cons (.text _) .nil))) (List.getElem_mem h42)
        · exact q _ (.off ms[r2]) a2 H5 kk (F4.keep s5) (by omega) (.tup et (.cons (.text _) (.cons (.text _) .nil))) (List.getElem_mem h42)
      | false =>
        refine iteF ?_
        refine ⟨by show 3 ≤ 1000; decide, fun l H3 s3 nl el => ?_⟩
        have h9 : r % 3 < 3 := Nat.mod_lt _ (by decide)
        obtain ⟨sd, esd, hsd⟩ : ∃ sd : Str, ([V.str "on", V.str "on", V.str "back"] : List V)[r % 3]? = some (.str sd) ∧ (sd = "on" ∨ sd = "back") := by
          have : r % 3 = 0 ∨ r % 3 = 1 ∨ r % 3 = 2 := by omega
          rcases this with e | e | e
          · rw [e]; exact ⟨_, rfl, .inl rfl⟩
          · rw [e]; exact ⟨_, rfl, .inl rfl⟩
          · rw [e]; exact ⟨_, rfl, .inr rfl⟩
        have e3 : ((r : Int) % 3) = ((r % 3 : Nat) : Int) := by omega
        refine ⟨vn r, rfl, _, _, rfl, rfl, (show (0 : Int) < 3 by decide), l, _, _, .str sd, rfl, rfl, .inl (.inl el), (by rw [e3]; exact atI_nat esd), ?_⟩
        have ew3 := s3 _ _ ew2
        refine ⟨.ref wl, rfl, by show 1 ≤ 1000; decide, fun c H4 s4 nc ec => ⟨wl, c, _, _, rfl, rfl, s4 _ _ ew3, ec, by rw [List.length_map]; show _ + 1 ≤ _; omega, fun d H5 s5 nd ed => ?_⟩⟩
        have ed : H5 d = some (.lst ((ws ++ [star]).map V.str)) := by rw [ed, List.map_append] <;> rfl
        have s25 := Same.trans (Same.trans s3 s4) s5
        have F5 := F2.keep s25
        refine ⟨.ref fd, rfl, .ref wl, rfl, .ref wl, ws.length, rfl, .inl ⟨_, .inl (.inl (s5 _ _ (s4 _ _ ew3))), by rw [List.length_map]⟩, _, _, rfl, rfl, fd, cl, ws.length + 1, a1, rfl, F5, by omega, by omega, by omega, fun r2 a2 H6 k6 F6 h61 h62 => ?_⟩
        have ed6 := k6 _ _ ed (F5.nl ed (by intro k z; cases z))
        have hr2 : r2 < (ws ++ [star]).length := by rw [List.length_append]; exact h62
        refine ⟨d, _, r2, .str (ws ++ [star])[r2], rfl, rfl, .inl (.inl ed6), atI_nat (by rw [List.getElem?_map, List.getElem?_eq_getElem hr2] <;> rfl), by show 3 ≤ 1000; decide, fun t H7 s7 nt et => ?_⟩
        refine q _ (.step sd (ws ++ [star])[r2]) a2 H7 (((k2.trans (Kp.of s25)).trans k6).trans (Kp.of s7)) (F6.keep s7) (by omega) (.tup et (.cons (.text _) (.cons (.text _) (.cons (.text _) .nil)))) ⟨hsd, ?_⟩
        rcases List.mem_append.mp (List.getElem_mem hr2) with h | h
        · exact .inr h
        · exact .inl (List.mem_singleton.mp h)
end
end Pk
namespace Pk
set_option autoImplicit false
set_option maxRecDepth 100000
set_option maxHeartbeats 4000000
open PySem PySem.Spec PyProof.Rows L2
theorem sc_L_pattern : FnScope ["_law_feed_here", "_law_words", "_law_marks", "_law_bag", "_law_deep", "_law_way", "_law_some", "_law_k"] ["_law_feed_here", "_law_words", "_law_marks", "_law_bag", "_law_deep"] d_L_pattern.scope := ⟨rfl, rfl, rfl, by decide +kernel, rfl, by decide +kernel, by decide +kernel⟩
def PIn (ws ms : List Str) (p : Pat) : Prop := ∀ q, Sub p q → isLeaf q = true → LeafIn ws ms q
theorem PIn.leaf {ws ms : List Str} {l : Pat} (h : LeafIn ws ms l) : PIn ws ms l := fun q s f => by
  rcases s.inv with rfl | ⟨x, hx, _⟩
  · exact h
  · cases l with
    | thn ps => exact h.elim
    | eit ps => exact h.elim
    | many p => exact h.elim
    | _ => cases hx
theorem PIn.many {ws ms : List Str} {p : Pat} (h : PIn ws ms p) : PIn ws ms (.many p) := fun q s f => by
  rcases s.inv with rfl | ⟨x, hx, s2⟩
  · cases f
  · rw [List.mem_singleton.mp hx] at s2
    exact h q s2 f
theorem PIn.thn {ws ms : List Str} {ps : List Pat} (h : ∀ p ∈ ps, PIn ws ms p) : PIn ws ms (.thn ps) := fun q s f => by
  rcases s.inv with rfl | ⟨x, hx, s2⟩
  · cases f
  · exact h x hx q s2 f
theorem PIn.eit {ws ms : List Str} {ps : List Pat} (h : ∀ p ∈ ps, PIn ws ms p) : PIn ws ms (.eit ps) := fun q s f => by
  rcases s.inv with rfl | ⟨x, hx, s2⟩
  · cases f
  · exact h x hx q s2 f
theorem LeafIn.is {ws ms : List Str} {l : Pat} (h : LeafIn ws ms l) : isLeaf l = true ∧ sz l = 1 ∧ (pkey l).depth = 1 ∧ nst l ≤ 1 := by
  cases l with
  | thn ps => exact h.elim
  | eit ps => exact h.elim
  | many p => exact h.elim
  | step s v => exact ⟨rfl, rfl, rfl, Nat.le_refl _⟩
  | _ => exact ⟨rfl, rfl, rfl, Nat.zero_le _⟩
theorem FeedS.mut {H : Hp} {fd cl b : Addr} {a : Nat} {o : HO} (f : FeedS H fd cl a) (h1 : fd ≠ b) (h2 : cl ≠ b) : FeedS (upd H b o) fd cl a := by
  obtain ⟨ns, l, e1, e2, e3, e4⟩ := f
  exact ⟨ns, l, by rw [upd_ne h1]; exact e1, by rw [upd_ne h2]; exact e2, e3, e4⟩
section
variable {P : Program} {w : World} {K : PySem.W.Frag} {mg : Str → Option Value} {base : Heap}
def sqPat (N : Nat) : Sq := fun vs H Q => ∃ (fd cl wl ml bg : Addr) (ws ms : List Str) (a b d : Nat), vs = [.ref fd, .ref wl, .ref ml, .ref bg, vn d] ∧ d < N ∧ FeedS H fd cl a ∧ a + 5 * b ≤ 80000 ∧ H wl = some (.lst (ws.map V.str)) ∧ H ml = some (.lst (ms.map V.str)) ∧ ws.length ≤ 10 ∧ ms.length ≤ 10 ∧ (∀ x ∈ ms, x ∈ nameT) ∧
  H bg = some (.lst [vn b]) ∧ 1 ≤ b ∧ b ≤ 10 ∧ bg ≠ wl ∧ bg ≠ ml ∧ bg ≠ cl ∧
  ∀ (v : V) (p : Pat) (a' b' : Nat) (H' : Hp), Kp [fd, bg] H H' → FeedS H' fd cl a' → a' ≤ a + 5 * sz p → H' bg = some (.lst [vn b']) → sz p + b' = b → Dn H' v (pkey p) → PIn ws ms p → (pkey p).depth ≤ 2 * d + 1 → 4 * nst p ≤ 3 * sz p + 1 → Q v H'
theorem pat0 (W : Wd K mg) : Cl P w K mg base "_law_pattern" ["_law_feed_here", "_law_words", "_law_marks", "_law_bag", "_law_deep"] 3 (sqPat 0) := by
  refine mk_cl W 29 19 (d := d_L_pattern) rfl rfl rfl rfl sc_L_pattern (fun _ _ _ _ _ _ us hl => match us, hl with | [_, _, _, _, _], _ => rfl) (fun vs H Q h => ?_) (fun f cdv A outer s H vs Q E hr h => ?_)
  · obtain ⟨fd, cl, wl, ml, bg, ws, ms, a, b, d, rfl, _⟩ := h
    rfl
  · obtain ⟨fd, cl, wl, ml, bg, ws, ms, a, b, d, rfl, hd, _⟩ := h
    exact absurd hd (Nat.not_lt_zero _)
theorem ok_L_pattern {N : Nat} (W : Wd K mg) (c_L_pattern : Cl P w K mg base "_law_pattern" ["_law_feed_here", "_law_words", "_law_marks", "_law_bag", "_law_deep"] (N + 3) (sqPat N)) :
    Cl P w K mg base "_law_pattern" ["_law_feed_here", "_law_words", "_law_marks", "_law_bag", "_law_deep"] (N + 4) (sqPat (N + 1)) := by
  refine mk_cl W 29 19 (d := d_L_pattern) rfl rfl rfl rfl sc_L_pattern (fun _ _ _ _ _ _ us hl => match us, hl with | [_, _, _, _, _], _ => rfl) (fun vs H Q h => ?_) (fun f cdv A outer s H vs Q E hr h => ?_)
  · obtain ⟨fd, cl, wl, ml, bg, ws, ms, a, b, d, rfl, _⟩ := h
    rfl
  · obtain ⟨fd, cl, wl, ml, bg, ws, ms, a, b, d, rfl, hd, F, ha, ew, em, lw, lm, hmn, ebg, hb1, hb, nbw, nbm, nbc, fin⟩ := h
    have c_L_draw : Cl P w K mg base "_law_draw" ["_law_feed_here", "_law_many"] 1 sqDraw := ok_L_draw W
    have c_L_leaf : Cl P w K mg base "_law_leaf" ["_law_feed_here", "_law_words", "_law_marks"] 2 sqLeaf := ok_L_leaf W
    refine ⟨_, (pss_cons (ps_asg (pe_op op_sub (pe_ix ix_list (pv 3) pe_int (fun _ _ => rfl)) pe_int) (pg_sub (pv 3) pe_int set_list))
      (pss_cons (ps_set (i := 5) sc_L_pattern.nd rfl (Or.inl rfl) (pe_fn c_L_draw (hr.mono (by omega)) (by rfl) (pa_cons (pv 0) (pa_cons pe_int pa_nil))))
      (pss_cons (ps_if (PW.pt (pw_or (pt_cmpR op_lt (pv 5) pe_int (nomark _)) (pw_or (pt_cmpR op_lt (pe_ix ix_list (pv 3) pe_int (fun _ _ => rfl)) pe_int (nomark _)) (pw_or1 (pt_cmpR op_eq (pv 4) pe_int (nomark _))))))
        (pss_one (ps_ret (pe_fn c_L_leaf (hr.mono (by omega)) (by rfl) (pa_cons (pv 0) (pa_cons (pv 1) (pa_cons (pv 2) pa_nil))))))
        pss_nil)
      (pss_cons (ps_if (pt_cmpR op_eq (pv 5) pe_int (nomark _))
        (pss_one (ps_ret (pe_tupN (pa_cons pe_str (pa_cons (pe_fn c_L_pattern (hr.mono (by omega)) (by rfl) (pa_cons (pv 0) (pa_cons (pv 1) (pa_cons (pv 2) (pa_cons (pv 3) (pa_cons (pe_op op_sub (pv 4) pe_int) pa_nil)))))) pa_nil)))))
        pss_nil)
      (pss_cons (ps_set (i := 6) sc_L_pattern.nd rfl (Or.inl rfl) (pe_lstN pa_nil))
      (pss_cons (ps_for PassesOwn.never rfl (pi_range1 (by rfl) (W.free 35) (pa_cons (pe_ix ix_list (pe_lstN (pa_cons pe_int (pa_cons pe_int (pa_cons pe_int (pa_cons pe_int (pa_cons pe_int (pa_cons pe_int (pa_cons pe_int (pa_cons pe_int pa_nil))))))))) (pe_fn c_L_draw (hr.mono (by omega)) (by rfl) (pa_cons (pv 0) (pa_cons pe_int pa_nil))) (fun _ _ => rfl)) pa_nil)) (pg_name (i := 7) sc_L_pattern.nd rfl (Or.inl rfl))
        (pss_one (ps_if (pt_cmpR op_gt (pe_ix ix_list (pv 3) pe_int (fun _ _ => rfl)) pe_int (nomark _))
          (pss_one (ps_expr (pe_bm PySem.F.plainAttrs_list PySem.F.slot_list_append PySem.F.type_list_append mt_append (pv 6) (pa_cons (pe_fn c_L_pattern (hr.mono (by omega)) (by rfl) (pa_cons (pv 0) (pa_cons (pv 1) (pa_cons (pv 2) (pa_cons (pv 3) (pa_cons (pe_op op_sub (pv 4) pe_int) pa_nil)))))) pa_nil))))
          pss_nil)))
      (pss_one (ps_ret (pe_tupN (pa_cons (pe_ix ix_list (pe_lstN (pa_cons pe_str (pa_cons pe_str pa_nil))) (pe_op op_mod (pv 5) pe_int) (fun _ _ => rfl)) (pa_cons (pe_callTy n_tuple (by rfl) (W.free 37) (by decide +kernel) (pa_cons (pv 6) pa_nil)) pa_nil))))))))))), ?_⟩
    have nfb : fd ≠ bg := by
      obtain ⟨_, _, h1, _⟩ := F
      exact ne_of h1 ebg (by intro z; cases z)
    -- the bag
    refine ⟨.ref bg, rfl, bg, _, 0, vn b, rfl, rfl, .inl (.inl ebg), atI_nat (j := 0) rfl, _, _, rfl, rfl, .ref bg, rfl, bg, _, 0, 0, rfl, rfl, ebg, rfl, ?_⟩
    have eb1 : ((b : Int) - 1) = ((b - 1 : Nat) : Int) := by omega
    obtain ⟨H1, e1⟩ : ∃ H1, H1 = upd H bg (.lst [vn (b - 1)]) := ⟨_, rfl⟩
    have e1' : upd H bg (.lst ([vn b].set 0 (.int ((b : Int) - 1)))) = H1 := by rw [e1, eb1] <;> rfl
    rw [e1']
    have k1 : Kp [fd, bg] H H1 := by rw [e1]; exact Kp.mut (by simp)
    have F1 : FeedS H1 fd cl a := by rw [e1]; exact F.mut nfb nbc.symm
    have ebg1 : H1 bg = some (.lst [vn (b - 1)]) := by rw [e1]; exact upd_same
    have ew1 : H1 wl = some (.lst (ws.map V.str)) := by rw [e1, upd_ne nbw.symm]; exact ew
    have em1 : H1 ml = some (.lst (ms.map V.str)) := by rw [e1, upd_ne nbm.symm]; exact em
    -- the way
    refine ⟨.ref fd, rfl, fd, cl, 8, a, rfl, F1, by decide, by decide, by omega, fun r a2 H2 k2 F2 h21 h22 => ?_⟩
    have k12 : Kp [fd, bg] H H2 := k1.trans (k2.mono (by simp))
    have ebg2 := k2 _ _ ebg1 (F1.nl ebg1 (by intro k z; cases z))
    have ew2 := k2 _ _ ew1 (F1.nl ew1 (by intro k z; cases z))
    have em2 := k2 _ _ em1 (F1.nl em1 (by intro k z; cases z))
    dsimp only [gName]
    refine mergeT (fun c H' => H' = H2 ∧ c = (decide (r < 3) || (decide (b - 1 < 1) || decide (d = 0)))) (fun Q' hQ => ?_) ?_
    · refine ⟨vn r, rfl, _, _, rfl, rfl, _, rfl, ?_⟩
      refine ite2 (fun h3 => ?_) (fun h3 => ?_)
      · have h3 : r < 3 := by have := of_decide_eq_true h3; omega
        refine hQ _ _ ⟨rfl, ?_⟩
        rw [decide_eq_true h3, Bool.true_or]
      · have h3 : ¬ r < 3 := fun z => h3 (decide_eq_true (by omega))
        refine ⟨.ref bg, rfl, bg, _, 0, vn (b - 1), rfl, rfl, .inl (.inl ebg2), atI_nat (j := 0) rfl, _, _, rfl, rfl, _, rfl, ?_⟩
        refine ite2 (fun h4 => ?_) (fun h4 => ?_)
        · have h4 : b - 1 < 1 := by have := of_decide_eq_true h4; omega
          refine hQ _ _ ⟨rfl, ?_⟩
          rw [decide_eq_true h4, Bool.true_or, Bool.or_true]
        · have h4 : ¬ b - 1 < 1 := fun z => h4 (decide_eq_true (by omega))
          refine ⟨vn d, rfl, rfl, _, rfl, hQ _ _ ⟨rfl, ?_⟩⟩
          rw [decide_eq_false h3, decide_eq_false h4, Bool.false_or, Bool.false_or]
          by_cases h5 : d = 0
          · rw [h5] <;> rfl
          · rw [decide_eq_false h5]
            exact decide_eq_false fun z => h5 (by have := V.int.inj z; omega)
    rintro c H' ⟨rfl, ec⟩
    cases c with
    | true =>
      refine iteT ?_
      refine ⟨.ref fd, rfl, .ref wl, rfl, .ref ml, rfl, fd, cl, wl, ml, ws, ms, a2, rfl, F2, by omega, ew2, em2, lw, lm, hmn, fun v l a3 H3 k3 F3 h3 dl lin => ?_⟩
      obtain ⟨_, z1, z2, z3⟩ := lin.is
      refine fin v l a3 (b - 1) H3 (k12.trans (k3.mono (by simp))) F3 (by omega) (k3 _ _ ebg2 (F2.nl ebg2 (by intro k z; cases z))) (by omega) dl (PIn.leaf lin) (by omega) (by omega)
    | false =>
      refine iteF ?_
      have hb2 : 1 ≤ b - 1 := Decidable.byContradiction fun z => by
        rw [decide_eq_true (show b - 1 < 1 by omega), Bool.true_or, Bool.or_true] at ec
        cases ec
      have hd1 : 1 ≤ d := Decidable.byContradiction fun z => by
        rw [decide_eq_true (show d = 0 by omega), Bool.or_true, Bool.or_true] at ec
        cases ec
      have ed : ((d : Int) - 1) = ((d - 1 : Nat) : Int) := by omega
      clear ec
      refine ⟨vn r, rfl, rfl, _, rfl, ?_⟩
      refine ite2 (fun h3 => ?_) (fun h3 => ?_)
      · refine ⟨.ref fd, rfl, .ref wl, rfl, .ref ml, rfl, .ref bg, rfl, vn d, rfl, _, _, rfl, rfl, fd, cl, wl, ml, bg, ws, ms, a2, b - 1, d - 1, by show [V.ref fd, V.ref wl, V.ref ml, V.ref bg, V.int ((d : Int) - 1)] = _; rw [ed], by omega, F2, by omega, ew2, em2, lw, lm, hmn, ebg2, hb2, by omega, nbw, nbm, nbc, fun v p a3 b3 H3 k3 F3 h31 ebg3 hz dp pin dep hns => ?_⟩
        refine ⟨by show 2 ≤ 1000; decide, fun t H4 s4 nt et => ?_⟩
        refine fin (.ref t) (.many p) a3 b3 H4 ((k12.trans k3).trans (Kp.of s4)) (F3.keep s4) (by simp only [sz]; omega) (s4 _ _ ebg3) (by simp only [sz]; omega) (.tup et (.cons (.text _) (.cons (dp.mono (Same.tps s4)) .nil))) (PIn.many pin) ?_ (by simp only [sz, nst]; omega)
        have : (pkey (.many p)).depth = max 0 (max ((pkey p).depth) 0) + 1 := rfl
        omega
      · refine ⟨Nat.zero_le _, fun sm H3 s3 nsm esm => ?_⟩
        have F3 := F2.keep s3
        have nsc : cl ≠ sm := by
          obtain ⟨ns, l, h1, h2, _⟩ := F2
          exact ne_of_none h2 nsm
        have nsf : fd ≠ sm := by
          obtain ⟨ns, l, h1, h2, _⟩ := F2
          exact ne_of_none h1 nsm
        have nsb : bg ≠ sm := ne_of_none ebg2 nsm
        have nsw : wl ≠ sm := ne_of_none ew2 nsm
        have nsl : ml ≠ sm := ne_of_none em2 nsm
        have nsm0 : ∀ o, H sm = some o → False := fun o h => by
          have := k12 sm o h (by
            intro hm
            rcases List.mem_cons.mp hm with z | hm
            · exact nsf z.symm
            · exact nsb (List.mem_singleton.mp hm).symm)
          rw [nsm] at this
          cases this
        refine ⟨by show 8 ≤ 1000; decide, fun tb H4 s4 ntb etb => ?_⟩
        refine ⟨.ref fd, rfl, fd, cl, 8, a2, rfl, F3.keep s4, by decide, by decide, by omega, fun r5 a5 H5 k5 F5 h51 h52 => ?_⟩
        have etb5 := k5 _ _ etb ((F3.keep s4).nl etb (by intro k z; cases z))
        have esm5 := k5 _ _ (s4 _ _ esm) ((F3.keep s4).nl (s4 _ _ esm) (by intro k z; cases z))
        have ebg5 := k5 _ _ (s4 _ _ (s3 _ _ ebg2)) ((F3.keep s4).nl (s4 _ _ (s3 _ _ ebg2)) (by intro k z; cases z))
        have k15 : Kp [fd, bg] H H5 := ((k12.trans (Kp.of s3)).trans (Kp.of s4)).trans (k5.mono (by simp))
        obtain ⟨cn, ecn, hcn⟩ : ∃ cn : Nat, ([.int 2, .int 3, .int 0, .int 1, .int 2, .int 2, .int 4, .int 3] : List V)[r5]? = some (vn cn) ∧ cn ≤ 4 := by
          rcases r5 with _ | _ | _ | _ | _ | _ | _ | _ | r5
          · exact ⟨2, rfl, by decide⟩
          · exact ⟨3, rfl, by decide⟩
          · exact ⟨0, rfl, by decide⟩
          · exact ⟨1, rfl, by decide⟩
          · exact ⟨2, rfl, by decide⟩
          · exact ⟨2, rfl, by decide⟩
          · exact ⟨4, rfl, by decide⟩
          · exact ⟨3, rfl, by decide⟩
          · omega
        refine ⟨tb, _, r5, vn cn, rfl, rfl, .inl (.inl etb5), atI_nat ecn, (cn : Int), rfl, by omega, by omega, for_range (lo := 0) (n := cn) (fun i σ H' => ∃ (ps : List Pat) (sv : List V) (a6 b6 : Nat) (v7 : Option V), σ = [some (.ref fd), some (.ref wl), some (.ref ml), some (.ref bg), some (vn d), some (vn r), some (.ref sm), v7] ∧ Kp [fd, bg] H H' ∧ FeedS H' fd cl a6 ∧ H' sm = some (.lst sv) ∧ DnAll H' sv (ps.map pkey) ∧ ps.length ≤ i ∧ H' bg = some (.lst [vn b6]) ∧ szs ps + b6 + 1 = b ∧ a6 ≤ a + 5 * szs ps + 2 ∧ 4 * nsts ps ≤ 3 * szs ps + ps.length ∧ (∀ p ∈ ps, PIn ws ms p ∧ (pkey p).depth ≤ 2 * (d - 1) + 1)) ?_ ?_ ?_⟩
        · exact ⟨[], [], a5, b - 1, none, rfl, k15, F5, esm5, .nil, Nat.le_refl _, ebg5, by simp only [szs]; omega, by simp only [szs]; omega, by simp [nsts], fun p hp => (by cases hp)⟩
        · rintro i σ H6 hi ⟨ps, sv, a6, b6, v7, rfl, k6, F6, esv, dsv, hpl, ebg6, hzs, ha6, hns6, hps⟩
          have ew6 := k6 _ _ ew (by
            intro hm
            rcases List.mem_cons.mp hm with z | hm
            · obtain ⟨_, _, h1, _⟩ := F
              rw [z, h1] at ew
              cases ew
            · exact nbw (List.mem_singleton.mp hm).symm)
          have em6 := k6 _ _ em (by
            intro hm
            rcases List.mem_cons.mp hm with z | hm
            · obtain ⟨_, _, h1, _⟩ := F
              rw [z, h1] at em
              cases em
            · exact nbm (List.mem_singleton.mp hm).symm)
          refine ⟨.ref bg, rfl, bg, _, 0, vn b6, rfl, rfl, .inl (.inl ebg6), atI_nat (j := 0) rfl, _, _, rfl, rfl, _, rfl, ?_⟩
          refine ite2 (fun hgt => ?_) (fun hgt => ?_)
          · have hgt : 1 ≤ b6 := by have := of_decide_eq_true hgt; omega
            refine ⟨.ref sm, rfl, .inl ⟨rfl, _, .inl (.inl esv)⟩, .ref fd, rfl, .ref wl, rfl, .ref ml, rfl, .ref bg, rfl, vn d, rfl, _, _, rfl, rfl, fd, cl, wl, ml, bg, ws, ms, a6, b6, d - 1, by show [V.ref fd, V.ref wl, V.ref ml, V.ref bg, V.int ((d : Int) - 1)] = _; rw [ed], by omega, F6, by omega, ew6, em6, lw, lm, hmn, ebg6, hgt, by omega, nbw, nbm, nbc, fun v p a7 b7 H7 k7 F7 h71 ebg7 hz dp pin dep hns => ?_⟩
            have esv7 := k7 _ _ esv (by
              intro hm
              rcases List.mem_cons.mp hm with z | hm
              · exact nsf z.symm
              · exact nsb (List.mem_singleton.mp hm).symm)
            have t67 : Tps H6 H7 := k7.tps fun b hb xs e => by
              rcases List.mem_cons.mp hb with rfl | hb
              · obtain ⟨_, _, h1, _⟩ := F6
                rw [h1] at e; cases e
              · rw [List.mem_singleton.mp hb, ebg6] at e; cases e
            have hsvl : sv.length = ps.length := by rw [dsv.length, List.length_map]
            refine ⟨sm, sv, v, rfl, rfl, esv7, small_lt (m := 100) (by omega) (by decide), ?_⟩
            have tt : Tps H7 (upd H7 sm (.lst (sv ++ [v]))) := Tps.mut esv7 (by intro xs z; cases z)
            refine ⟨ps ++ [p], sv ++ [v], a7, b7, _, rfl, ?_, F7.mut nsf nsc, upd_same, ?_, by rw [List.length_append]; simp; omega, by rw [upd_ne nsb]; exact ebg7, ?_, ?_, by rw [nsts_append, szs_append, List.length_append]; simp only [nsts, szs, List.length_singleton]; omega, ?_⟩
            · intro x o hx hn
              have : x ≠ sm := fun z => nsm0 o (z ▸ hx)
              rw [upd_ne this]
              exact (k6.trans k7) x o hx hn
            · rw [List.map_append]
              exact ((dsv.mono t67).mono tt).append (.cons (dp.mono tt) .nil)
            · rw [szs_append]
              simp only [szs]
              omega
            · rw [szs_append]
              simp only [szs]
              omega
            · intro p' hp'
              rcases List.mem_append.mp hp' with hp' | hp'
              · exact hps p' hp'
              · rw [List.mem_singleton.mp hp']
                exact ⟨pin, dep⟩
          · exact ⟨ps, sv, a6, b6, _, rfl, k6, F6, esv, dsv, by omega, ebg6, hzs, ha6, hns6, hps⟩
        · rintro σ H6 ⟨ps, sv, a6, b6, v7, rfl, k6, F6, esv, dsv, hpl, ebg6, hzs, ha6, hns6, hps⟩
          refine ⟨by show 2 ≤ 1000; decide, fun tg H7 s7 ntg etg => ?_⟩
          have h2 : r % 2 < 2 := Nat.mod_lt _ (by decide)
          have e2 : ((r : Int) % 2) = ((r % 2 : Nat) : Int) := by omega
          obtain ⟨tz, etz, htz⟩ : ∃ tz : Str, ([V.str "then", V.str "either"] : List V)[r % 2]? = some (.str tz) ∧ (tz = "then" ∨ tz = "either") := by
            have : r % 2 = 0 ∨ r % 2 = 1 := by omega
            rcases this with e | e
            · rw [e]; exact ⟨_, rfl, .inl rfl⟩
            · rw [e]; exact ⟨_, rfl, .inr rfl⟩
          refine ⟨vn r, rfl, _, _, rfl, rfl, (show (0 : Int) < 2 by decide), tg, _, _, .str tz, rfl, rfl, .inl (.inl etg), (by rw [e2]; exact atI_nat etz), .ref sm, rfl, sm, sv, rfl, .inl (.inl (s7 _ _ esv)), fun tu H8 s8 ntu etu => ⟨by show 2 ≤ 1000; decide, fun t H9 s9 nt et => ?_⟩⟩
          have s69 := Same.trans (Same.trans s7 s8) s9
          have dall : DnAll H9 sv (pkeys ps) := by rw [pkeys_map]; exact dsv.mono (Same.tps s69)
          have dep : NestedKey.depthAll (pkeys ps) ≤ 2 * (d - 1) + 1 := by
            rw [pkeys_map]
            refine depthAll_le fun k hk => ?_
            obtain ⟨p', hp', rfl⟩ := List.mem_map.mp hk
            exact (hps p' hp').2
          rcases htz with rfl | rfl
          · refine fin (.ref t) (.thn ps) a6 b6 H9 (k6.trans (Kp.of s69)) (F6.keep s69) (by simp only [sz]; omega) (s69 _ _ ebg6) (by simp only [sz]; omega) (.tup et (.cons (.text _) (.cons (.tup (s9 _ _ etu) dall) .nil))) (PIn.thn fun p hp => (hps p hp).1) ?_ (by simp only [sz, nst]; omega)
            have : (pkey (.thn ps)).depth = max 0 (max (NestedKey.depthAll (pkeys ps) + 1) 0) + 1 := rfl
            omega
          · refine fin (.ref t) (.eit ps) a6 b6 H9 (k6.trans (Kp.of s69)) (F6.keep s69) (by simp only [sz]; omega) (s69 _ _ ebg6) (by simp only [sz]; omega) (.tup et (.cons (.text _) (.cons (.tup (s9 _ _ etu) dall) .nil))) (PIn.eit fun p hp => (hps p hp).1) ?_ (by simp only [sz, nst]; omega)
            have : (pkey (.eit ps)).depth = max 0 (max (NestedKey.depthAll (pkeys ps) + 1) 0) + 1 := rfl
            omega
theorem pat_all (W : Wd K mg) : ∀ N, Cl P w K mg base "_law_pattern" ["_law_feed_here", "_law_words", "_law_marks", "_law_bag", "_law_deep"] (N + 3) (sqPat N)
  | 0 => pat0 W
  | N + 1 => ok_L_pattern W (pat_all W N)
end
end Pk
namespace Pk
set_option autoImplicit false
set_option maxRecDepth 100000
set_option maxHeartbeats 4000000
open PySem PySem.Spec PyProof.Rows L2
theorem sc_L_two : FnScope ["_law_feed_here", "_law_words", "_law_marks", "_law_one", "_law_other", "_law_way"] ["_law_feed_here"] d_L_two.scope := ⟨rfl, rfl, rfl, by decide +kernel, rfl, by decide +kernel, by decide +kernel⟩
theorem Kp.drop {fd b : Addr} {H H1 H2 : Hp} (x : Kp [fd] H H1) (n : H b = none) (y : Kp [fd, b] H1 H2) : Kp [fd] H H2 := fun c o e hc => y c o (x c o e hc) fun hm => by
  rcases List.mem_cons.mp hm with z | hm
  · exact hc (by rw [z]; simp)
  · rw [List.mem_singleton.mp hm, n] at e
    cases e
theorem two_mem {P : Pat → Prop} {a b : Pat} (ha : P a) (hb : P b) : ∀ q ∈ [a, b], P q := fun q hq => by
  rcases List.mem_cons.mp hq with rfl | hq
  · exact ha
  · rw [List.mem_singleton.mp hq]; exact hb
structure Good (ws ms : List Str) (p : Pat) : Prop where
  pin : PIn ws ms p
  sz : sz p ≤ 8
  nst : nst p ≤ 4
  dep : (pkey p).depth ≤ 30
structure Raw (ws ms : List Str) (p : Pat) : Prop where
  pin : PIn ws ms p
  sz : sz p ≤ 3
  nst : nst p ≤ 2
  dep : (pkey p).depth ≤ 9
theorem Raw.good {ws ms : List Str} {p : Pat} (r : Raw ws ms p) : Good ws ms p := ⟨r.pin, by have := r.sz; omega, by have := r.nst; omega, by have := r.dep; omega⟩
section
variable {P : Program} {w : World} {K : PySem.W.Frag} {mg : Str → Option Value} {base : Heap}
def sqTwo : Sq := fun vs H Q => ∃ (fd cl : Addr) (a : Nat), vs = [.ref fd] ∧ FeedS H fd cl a ∧ a ≤ 1000 ∧
  ∀ (t : Addr) (v u : V) (p r : Pat) (ws ms : List Str) (H' : Hp), Kp [fd] H H' → H' t = some (.tup [v, u]) → Dn H' v (pkey p) → Dn H' u (pkey r) → ws.length ≤ 4 → ms.length ≤ 3 → (∀ x ∈ ws, x ∈ nameT) → (∀ x ∈ ms, x ∈ nameT) → Good ws ms p → Good ws ms r → Q (.ref t) H'
theorem ok_L_two (W : Wd K mg) : Cl P w K mg base "_law_two" ["_law_feed_here"] 9 sqTwo := by
  refine mk_cl W 39 29 (d := d_L_two) rfl rfl rfl rfl sc_L_two (fun _ _ _ _ _ _ us hl => match us, hl with | [_], _ => rfl) (fun vs H Q h => ?_) (fun f cdv A outer s H vs Q E hr h => ?_)
  · obtain ⟨fd, cl, a, rfl, _⟩ := h
    rfl
  · obtain ⟨fd, cl, a, rfl, F, ha, fin⟩ := h
    have c_L_draw : Cl P w K mg base "_law_draw" ["_law_feed_here", "_law_many"] 1 sqDraw := ok_L_draw W
    have c_L_names : Cl P w K mg base "_law_names" ["_law_feed_here", "_law_many"] 2 sqNames := ok_L_names W
    have c_L_pattern := pat_all (P := P) (w := w) (base := base) W 5
    refine ⟨_, (pss_cons (ps_set (i := 1) sc_L_two.nd rfl (Or.inl rfl) (pe_fn c_L_names (hr.mono (by omega)) (by rfl) (pa_cons (pv 0) (pa_cons (pe_op op_add pe_int (pe_fn c_L_draw (hr.mono (by omega)) (by rfl) (pa_cons (pv 0) (pa_cons pe_int pa_nil)))) pa_nil))))
      (pss_cons (ps_set (i := 2) sc_L_two.nd rfl (Or.inl rfl) (pe_fn c_L_names (hr.mono (by omega)) (by rfl) (pa_cons (pv 0) (pa_cons (pe_ix ix_list (pe_lstN (pa_cons pe_int (pa_cons pe_int (pa_cons pe_int (pa_cons pe_int pa_nil))))) (pe_fn c_L_draw (hr.mono (by omega)) (by rfl) (pa_cons (pv 0) (pa_cons pe_int pa_nil))) (fun _ _ => rfl)) pa_nil))))
      (pss_cons (ps_if (pt_cmpR op_eq (pe_fn c_L_draw (hr.mono (by omega)) (by rfl) (pa_cons (pv 0) (pa_cons pe_int pa_nil))) pe_int (nomark _))
        (pss_cons (ps_set (i := 1) sc_L_two.nd rfl (Or.inl rfl) (pe_fn c_L_names (hr.mono (by omega)) (by rfl) (pa_cons (pv 0) (pa_cons pe_int pa_nil))))
        (pss_one (ps_set (i := 2) sc_L_two.nd rfl (Or.inl rfl) (pe_fn c_L_names (hr.mono (by omega)) (by rfl) (pa_cons (pv 0) (pa_cons pe_int pa_nil))))))
        pss_nil)
      (pss_cons (ps_set (i := 3) sc_L_two.nd rfl (Or.inl rfl) (pe_fn c_L_pattern (hr.mono (by omega)) (by rfl) (pa_cons (pv 0) (pa_cons (pv 1) (pa_cons (pv 2) (pa_cons (pe_lstN (pa_cons (pe_op op_add pe_int (pe_fn c_L_draw (hr.mono (by omega)) (by rfl) (pa_cons (pv 0) (pa_cons pe_int pa_nil)))) pa_nil)) (pa_cons pe_int pa_nil)))))))
      (pss_cons (ps_set (i := 4) sc_L_two.nd rfl (Or.inl rfl) (pe_fn c_L_pattern (hr.mono (by omega)) (by rfl) (pa_cons (pv 0) (pa_cons (pv 1) (pa_cons (pv 2) (pa_cons (pe_lstN (pa_cons (pe_op op_add pe_int (pe_fn c_L_draw (hr.mono (by omega)) (by rfl) (pa_cons (pv 0) (pa_cons pe_int pa_nil)))) pa_nil)) (pa_cons pe_int pa_nil)))))))
      (pss_cons (ps_set (i := 5) sc_L_two.nd rfl (Or.inl rfl) (pe_fn c_L_draw (hr.mono (by omega)) (by rfl) (pa_cons (pv 0) (pa_cons pe_int pa_nil))))
      (pss_cons (ps_if (pt_cmpR op_gt (pv 5) pe_int (nomark _))
        (pss_cons (ps_set (i := 3) sc_L_two.nd rfl (Or.inl rfl) (pe_fn c_L_pattern (hr.mono (by omega)) (by rfl) (pa_cons (pv 0) (pa_cons (pv 1) (pa_cons (pv 2) (pa_cons (pe_lstN (pa_cons (pe_op op_add pe_int (pe_fn c_L_draw (hr.mono (by omega)) (by rfl) (pa_cons (pv 0) (pa_cons pe_int pa_nil)))) pa_nil)) (pa_cons pe_int pa_nil)))))))
        (pss_one (ps_set (i := 4) sc_L_two.nd rfl (Or.inl rfl) (pe_fn c_L_pattern (hr.mono (by omega)) (by rfl) (pa_cons (pv 0) (pa_cons (pv 1) (pa_cons (pv 2) (pa_cons (pe_lstN (pa_cons (pe_op op_add pe_int (pe_fn c_L_draw (hr.mono (by omega)) (by rfl) (pa_cons (pv 0) (pa_cons pe_int pa_nil)))) pa_nil)) (pa_cons pe_int pa_nil)))))))))
        pss_nil)
      (pss_cons (ps_if (pt_cmpR op_eq (pv 5) pe_int (nomark _))
        (pss_one (ps_set (i := 4) sc_L_two.nd rfl (Or.inl rfl) (pe_tupN (pa_cons pe_str (pa_cons (pe_tupN (pa_cons (pv 4) (pa_cons (pv 3) pa_nil))) pa_nil)))))
        pss_nil)
      (pss_cons (ps_if (pt_cmpR op_eq (pv 5) pe_int (nomark _))
        (pss_one (ps_set (i := 4) sc_L_two.nd rfl (Or.inl rfl) (pe_tupN (pa_cons pe_str (pa_cons (pv 3) pa_nil)))))
        pss_nil)
      (pss_cons (ps_if (pt_cmpR op_eq (pv 5) pe_int (nomark _))
        (pss_one (ps_set (i := 4) sc_L_two.nd rfl (Or.inl rfl) (pe_tupN (pa_cons pe_str (pa_cons (pe_tupN (pa_cons (pe_tupN (pa_cons pe_str (pa_cons (pv 4) pa_nil))) (pa_cons (pv 3) pa_nil))) pa_nil)))))
        pss_nil)
      (pss_cons (ps_if (pt_cmpR op_eq (pv 5) pe_int (nomark _))
        (pss_cons (ps_set (i := 3) sc_L_two.nd rfl (Or.inl rfl) (pe_tupN (pa_cons pe_str (pa_cons (pe_tupN (pa_cons (pv 3) (pa_cons (pv 4) pa_nil))) pa_nil))))
        (pss_one (ps_set (i := 4) sc_L_two.nd rfl (Or.inl rfl) (pe_tupN (pa_cons pe_str (pa_cons (pe_tupN (pa_cons pe_str (pa_cons (pe_tupN (pa_cons (pe_ix ix_key (pe_ix ix_key (pv 3) pe_int (fun _ _ => rfl)) pe_int (fun _ _ => rfl)) (pa_cons (pe_ix ix_key (pe_ix ix_key (pv 3) pe_int (fun _ _ => rfl)) pe_int (fun _ _ => rfl)) pa_nil))) pa_nil))) pa_nil))))))
        pss_nil)
      (pss_cons (ps_if (pt_cmpR op_eq (pv 5) pe_int (nomark _))
        (pss_one (ps_set (i := 4) sc_L_two.nd rfl (Or.inl rfl) (pe_tupN (pa_cons pe_str (pa_cons (pe_tupN (pa_cons (pv 3) (pa_cons (pe_tupN (pa_cons pe_str pa_nil)) pa_nil))) pa_nil)))))
        pss_nil)
      (pss_one (ps_ret (pe_tupN (pa_cons (pv 3) (pa_cons (pv 4) pa_nil))))))))))))))))), ?_⟩
    -- words
    refine ⟨.ref fd, rfl, .ref fd, rfl, fd, cl, 2, a, rfl, F, by decide, by decide, by omega, fun r1 a1 H1 k1 F1 h11 h12 => ?_⟩
    have e1 : ((1 : Int) + (r1 : Int)) = ((1 + r1 : Nat) : Int) := by omega
    refine ⟨_, _, rfl, rfl, fd, cl, 1 + r1, a1, by show [V.ref fd, V.int ((1 : Int) + (r1 : Int))] = _; rw [e1], F1, by omega, by omega, fun wl ws a2 H2 k2 F2 h21 nwl ew2 hws4 hws => ?_⟩
    have k02 : Kp [fd] H H2 := k1.trans k2
    -- marks
    refine ⟨.ref fd, rfl, by show 4 ≤ 1000; decide, fun tb H3 s3 ntb etb => ?_⟩
    refine ⟨.ref fd, rfl, fd, cl, 4, a2, rfl, F2.keep s3, by decide, by decide, by omega, fun r4 a4 H4 k4 F4 h41 h42 => ?_⟩
    have etb4 := k4 _ _ etb ((F2.keep s3).nl etb (by intro k z; cases z))
    obtain ⟨cn, ecn, hcn⟩ : ∃ cn : Nat, ([.int 0, .int 1, .int 1, .int 2] : List V)[r4]? = some (vn cn) ∧ cn ≤ 2 := by
      rcases r4 with _ | _ | _ | _ | r4
      · exact ⟨0, rfl, by decide⟩
      · exact ⟨1, rfl, by decide⟩
      · exact ⟨1, rfl, by decide⟩
      · exact ⟨2, rfl, by decide⟩
      · omega
    refine ⟨tb, _, r4, vn cn, rfl, rfl, .inl (.inl etb4), atI_nat ecn, fd, cl, cn, a4, rfl, F4, by omega, by omega, fun ml ms a5 H5 k5 F5 h51 nml em5 hms4 hms => ?_⟩
    have ew4 := k4 _ _ (s3 _ _ ew2) ((F2.keep s3).nl (s3 _ _ ew2) (by intro k z; cases z))
    have ew5 := k5 _ _ ew4 (F4.nl ew4 (by intro k z; cases z))
    have k05 : Kp [fd] H H5 := ((k02.trans (Kp.of s3)).trans k4).trans k5
    dsimp only [gName]
    refine mergeS (fun σ' H' => ∃ (wl ml : Addr) (ws ms : List Str) (a6 : Nat), σ' = [some (.ref fd), some (.ref wl), some (.ref ml), none, none, none] ∧ Kp [fd] H H' ∧ FeedS H' fd cl a6 ∧ a6 ≤ a + 20 ∧ H' wl = some (.lst (ws.map V.str)) ∧ H' ml = some (.lst (ms.map V.str)) ∧ ws.length ≤ 4 ∧ ms.length ≤ 3 ∧ (∀ x ∈ ws, x ∈ nameT) ∧ ∀ x ∈ ms, x ∈ nameT) (fun nx hnx => ?_) ?_
    · refine ⟨.ref fd, rfl, fd, cl, 16, a5, rfl, F5, by decide, by decide, by omega, fun r6 a6 H6 k6 F6 h61 h62 => ⟨rfl, _, rfl, ?_⟩⟩
      have ew6 := k6 _ _ ew5 (F5.nl ew5 (by intro k z; cases z))
      have em6 := k6 _ _ em5 (F5.nl em5 (by intro k z; cases z))
      refine ite2 (fun h5 => ?_) (fun h5 => ?_)
      · refine ⟨.ref fd, rfl, fd, cl, 4, a6, rfl, F6, by decide, by omega, fun wl2 ws2 a7 H7 k7 F7 h71 nwl2 ew7 hws27 hws2 => ?_⟩
        refine ⟨.ref fd, rfl, fd, cl, 3, a7, rfl, F7, by decide, by omega, fun ml2 ms2 a8 H8 k8 F8 h81 nml2 em8 hms28 hms2 => ?_⟩
        exact hnx _ _ ⟨wl2, ml2, ws2, ms2, a8, rfl, ((k05.trans k6).trans k7).trans k8, F8, by omega, k8 _ _ ew7 (F7.nl ew7 (by intro k z; cases z)), em8, hws27, hms28, hws2, hms2⟩
      · exact hnx _ _ ⟨wl, ml, ws, ms, a6, rfl, k05.trans k6, F6, by omega, ew6, em6, by omega, by omega, hws, hms⟩
    clear ew5 em5 hws hms hws4 hms4 ew4 ew2
    rintro σ' H6 ⟨wl, ml, ws, ms, a6, rfl, k6, F6, ha6, ew6, em6, lws, lms, hws, hms⟩
    refine ⟨.ref fd, rfl, .ref wl, rfl, .ref ml, rfl, .ref fd, rfl, fd, cl, 3, a6, rfl, F6, by decide, by decide, by omega, fun r7 b7 G7 kg7 Fg7 hg7 hr7 => ?_⟩
    refine ⟨_, _, rfl, rfl, by show 1 ≤ 1000; decide, fun bg7 I7 si7 nb7 eb7 => ?_⟩
    have eb7 : I7 bg7 = some (.lst [vn (1 + r7)]) := by
      rw [eb7]
      have z : ((1 : Int) + (r7 : Int)) = ((1 + r7 : Nat) : Int) := by omega
      show some (HO.lst [V.int ((1 : Int) + (r7 : Int))]) = _
      rw [z]
    have ewg7 := kg7 _ _ ew6 (F6.nl ew6 (by intro k z; cases z))
    have emg7 := kg7 _ _ em6 (F6.nl em6 (by intro k z; cases z))
    have nbc7 : bg7 ≠ cl := by
      obtain ⟨ns, l, _, h2, _⟩ := Fg7
      exact (ne_of_none h2 nb7).symm
    refine ⟨fd, cl, wl, ml, bg7, ws, ms, b7, 1 + r7, 3, rfl, by decide, Fg7.keep si7, by omega, si7 _ _ ewg7, si7 _ _ emg7, by omega, by omega, hms, eb7, by omega, by omega, (ne_of_none ewg7 nb7).symm, (ne_of_none emg7 nb7).symm, nbc7, fun v7 p7 a7 bb7 H7 kp7 F7 ha7 ebb7 hz7 dp7 pin7 dep7 hn7 => ?_⟩
    have k7 : Kp [fd] H H7 := Kp.drop ((k6.trans kg7).trans (Kp.of si7)) (by
      cases hq : H bg7 with
      | none => rfl
      | some ob =>
        by_cases hf : bg7 = fd
        · obtain ⟨_, _, h1, _⟩ := Fg7
          rw [hf, h1] at nb7
          cases nb7
        · have := (k6.trans kg7) _ _ hq (by simpa using hf)
          rw [nb7] at this
          cases this) kp7
    have nin7 : ∀ {b : Addr} {ts : List Str}, I7 b = some (.lst (ts.map V.str)) → b ∉ [fd, bg7] := fun {b ts} h hm => by
      rcases List.mem_cons.mp hm with z | hm
      · rw [z] at h
        obtain ⟨_, _, h1, _⟩ := Fg7.keep si7
        rw [h1] at h
        cases h
      · rw [List.mem_singleton.mp hm, eb7] at h
        cases ts with
        | nil => cases h
        | cons t ts => cases h
    have ew7 := kp7 _ _ (si7 _ _ ewg7) (nin7 (si7 _ _ ewg7))
    have em7 := kp7 _ _ (si7 _ _ emg7) (nin7 (si7 _ _ emg7))
    have hsz7 := sz_pos p7
    have t6_7 : Tps H6 H7 := ((F6.tps kg7).trans (Same.tps si7)).trans (kp7.tps (by
      intro b hb xs e
      rcases List.mem_cons.mp hb with rfl | hb
      · obtain ⟨_, _, h1, _⟩ := Fg7.keep si7
        rw [h1] at e; cases e
      · rw [List.mem_singleton.mp hb, eb7] at e; cases e))
    refine ⟨.ref fd, rfl, .ref wl, rfl, .ref ml, rfl, .ref fd, rfl, fd, cl, 3, a7, rfl, F7, by decide, by decide, by omega, fun r8 b8 G8 kg8 Fg8 hg8 hr8 => ?_⟩
    refine ⟨_, _, rfl, rfl, by show 1 ≤ 1000; decide, fun bg8 I8 si8 nb8 eb8 => ?_⟩
    have eb8 : I8 bg8 = some (.lst [vn (1 + r8)]) := by
      rw [eb8]
      have z : ((1 : Int) + (r8 : Int)) = ((1 + r8 : Nat) : Int) := by omega
      show some (HO.lst [V.int ((1 : Int) + (r8 : Int))]) = _
      rw [z]
    have ewg8 := kg8 _ _ ew7 (F7.nl ew7 (by intro k z; cases z))
    have emg8 := kg8 _ _ em7 (F7.nl em7 (by intro k z; cases z))
    have nbc8 : bg8 ≠ cl := by
      obtain ⟨ns, l, _, h2, _⟩ := Fg8
      exact (ne_of_none h2 nb8).symm
    refine ⟨fd, cl, wl, ml, bg8, ws, ms, b8, 1 + r8, 3, rfl, by decide, Fg8.keep si8, by omega, si8 _ _ ewg8, si8 _ _ emg8, by omega, by omega, hms, eb8, by omega, by omega, (ne_of_none ewg8 nb8).symm, (ne_of_none emg8 nb8).symm, nbc8, fun v8 p8 a8 bb8 H8 kp8 F8 ha8 ebb8 hz8 dp8 pin8 dep8 hn8 => ?_⟩
    have k8 : Kp [fd] H H8 := Kp.drop ((k7.trans kg8).trans (Kp.of si8)) (by
      cases hq : H bg8 with
      | none => rfl
      | some ob =>
        by_cases hf : bg8 = fd
        · obtain ⟨_, _, h1, _⟩ := Fg8
          rw [hf, h1] at nb8
          cases nb8
        · have := (k7.trans kg8) _ _ hq (by simpa using hf)
          rw [nb8] at this
          cases this) kp8
    have nin8 : ∀ {b : Addr} {ts : List Str}, I8 b = some (.lst (ts.map V.str)) → b ∉ [fd, bg8] := fun {b ts} h hm => by
      rcases List.mem_cons.mp hm with z | hm
      · rw [z] at h
        obtain ⟨_, _, h1, _⟩ := Fg8.keep si8
        rw [h1] at h
        cases h
      · rw [List.mem_singleton.mp hm, eb8] at h
        cases ts with
        | nil => cases h
        | cons t ts => cases h
    have ew8 := kp8 _ _ (si8 _ _ ewg8) (nin8 (si8 _ _ ewg8))
    have em8 := kp8 _ _ (si8 _ _ emg8) (nin8 (si8 _ _ emg8))
    have hsz8 := sz_pos p8
    have t7_8 : Tps H7 H8 := ((F7.tps kg8).trans (Same.tps si8)).trans (kp8.tps (by
      intro b hb xs e
      rcases List.mem_cons.mp hb with rfl | hb
      · obtain ⟨_, _, h1, _⟩ := Fg8.keep si8
        rw [h1] at e; cases e
      · rw [List.mem_singleton.mp hb, eb8] at e; cases e))
    refine ⟨.ref fd, rfl, fd, cl, 8, a8, rfl, F8, by decide, by decide, by omega, fun way a9 H9 k9 F9 h91 h92 => ?_⟩
    have ew9 := k9 _ _ ew8 (F8.nl ew8 (by intro k z; cases z))
    have em9 := k9 _ _ em8 (F8.nl em8 (by intro k z; cases z))
    have k09 := k8.trans k9
    have dp7 := (dp7.mono t7_8).mono (F8.tps k9)
    have dp8 := dp8.mono (F8.tps k9)
    have raw7 : Raw ws ms p7 := ⟨pin7, by omega, by omega, by omega⟩
    have raw8 : Raw ws ms p8 := ⟨pin8, by omega, by omega, by omega⟩
    dsimp only [gName]
    have pred : ∀ (nx : L2.St → Hp → Prop) (k : Nat), True := fun _ _ => trivial
    refine mergeS (fun σ' H' => ∃ (v u : V) (p r : Pat), σ' = [some (.ref fd), some (.ref wl), some (.ref ml), some v, some u, some (vn way)] ∧ Kp [fd] H H' ∧ Dn H' v (pkey p) ∧ Dn H' u (pkey r) ∧ Good ws ms p ∧ Good ws ms r ∧ (0 < way → way ≤ 5 → Raw ws ms p ∧ Raw ws ms r)) (fun nx hnx => ?_) ?_
    · refine ⟨vn way, rfl, _, _, rfl, rfl, _, rfl, ?_⟩
      refine ite2 (fun h5 => ?_) (fun h5 => ?_)
      · have h5 : 5 < way := by have := of_decide_eq_true h5; omega
        have k9 := k09
        refine ⟨.ref fd, rfl, .ref wl, rfl, .ref ml, rfl, .ref fd, rfl, fd, cl, 4, a9, rfl, F9, by decide, by decide, by omega, fun r10 b10 G10 kg10 Fg10 hg10 hr10 => ?_⟩
        refine ⟨_, _, rfl, rfl, by show 1 ≤ 1000; decide, fun bg10 I10 si10 nb10 eb10 => ?_⟩
        have eb10 : I10 bg10 = some (.lst [vn (3 + r10)]) := by
          rw [eb10]
          have z : ((3 : Int) + (r10 : Int)) = ((3 + r10 : Nat) : Int) := by omega
          show some (HO.lst [V.int ((3 : Int) + (r10 : Int))]) = _
          rw [z]
        have ewg10 := kg10 _ _ ew9 (F9.nl ew9 (by intro k z; cases z))
        have emg10 := kg10 _ _ em9 (F9.nl em9 (by intro k z; cases z))
        have nbc10 : bg10 ≠ cl := by
          obtain ⟨ns, l, _, h2, _⟩ := Fg10
          exact (ne_of_none h2 nb10).symm
        refine ⟨fd, cl, wl, ml, bg10, ws, ms, b10, 3 + r10, 4, rfl, by decide, Fg10.keep si10, by omega, si10 _ _ ewg10, si10 _ _ emg10, by omega, by omega, hms, eb10, by omega, by omega, (ne_of_none ewg10 nb10).symm, (ne_of_none emg10 nb10).symm, nbc10, fun v10 p10 a10 bb10 H10 kp10 F10 ha10 ebb10 hz10 dp10 pin10 dep10 hn10 => ?_⟩
        have k10 : Kp [fd] H H10 := Kp.drop ((k9.trans kg10).trans (Kp.of si10)) (by
          cases hq : H bg10 with
          | none => rfl
          | some ob =>
            by_cases hf : bg10 = fd
            · obtain ⟨_, _, h1, _⟩ := Fg10
              rw [hf, h1] at nb10
              cases nb10
            · have := (k9.trans kg10) _ _ hq (by simpa using hf)
              rw [nb10] at this
              cases this) kp10
        have nin10 : ∀ {b : Addr} {ts : List Str}, I10 b = some (.lst (ts.map V.str)) → b ∉ [fd, bg10] := fun {b ts} h hm => by
          rcases List.mem_cons.mp hm with z | hm
          · rw [z] at h
            obtain ⟨_, _, h1, _⟩ := Fg10.keep si10
            rw [h1] at h
            cases h
          · rw [List.mem_singleton.mp hm, eb10] at h
            cases ts with
            | nil => cases h
            | cons t ts => cases h
        have ew10 := kp10 _ _ (si10 _ _ ewg10) (nin10 (si10 _ _ ewg10))
        have em10 := kp10 _ _ (si10 _ _ emg10) (nin10 (si10 _ _ emg10))
        have hsz10 := sz_pos p10
        have t9_10 : Tps H9 H10 := ((F9.tps kg10).trans (Same.tps si10)).trans (kp10.tps (by
          intro b hb xs e
          rcases List.mem_cons.mp hb with rfl | hb
          · obtain ⟨_, _, h1, _⟩ := Fg10.keep si10
            rw [h1] at e; cases e
          · rw [List.mem_singleton.mp hb, eb10] at e; cases e))
        refine ⟨.ref fd, rfl, .ref wl, rfl, .ref ml, rfl, .ref fd, rfl, fd, cl, 4, a10, rfl, F10, by decide, by decide, by omega, fun r11 b11 G11 kg11 Fg11 hg11 hr11 => ?_⟩
        refine ⟨_, _, rfl, rfl, by show 1 ≤ 1000; decide, fun bg11 I11 si11 nb11 eb11 => ?_⟩
        have eb11 : I11 bg11 = some (.lst [vn (3 + r11)]) := by
          rw [eb11]
          have z : ((3 : Int) + (r11 : Int)) = ((3 + r11 : Nat) : Int) := by omega
          show some (HO.lst [V.int ((3 : Int) + (r11 : Int))]) = _
          rw [z]
        have ewg11 := kg11 _ _ ew10 (F10.nl ew10 (by intro k z; cases z))
        have emg11 := kg11 _ _ em10 (F10.nl em10 (by intro k z; cases z))
        have nbc11 : bg11 ≠ cl := by
          obtain ⟨ns, l, _, h2, _⟩ := Fg11
          exact (ne_of_none h2 nb11).symm
        refine ⟨fd, cl, wl, ml, bg11, ws, ms, b11, 3 + r11, 4, rfl, by decide, Fg11.keep si11, by omega, si11 _ _ ewg11, si11 _ _ emg11, by omega, by omega, hms, eb11, by omega, by omega, (ne_of_none ewg11 nb11).symm, (ne_of_none emg11 nb11).symm, nbc11, fun v11 p11 a11 bb11 H11 kp11 F11 ha11 ebb11 hz11 dp11 pin11 dep11 hn11 => ?_⟩
        have k11 : Kp [fd] H H11 := Kp.drop ((k10.trans kg11).trans (Kp.of si11)) (by
          cases hq : H bg11 with
          | none => rfl
          | some ob =>
            by_cases hf : bg11 = fd
            · obtain ⟨_, _, h1, _⟩ := Fg11
              rw [hf, h1] at nb11
              cases nb11
            · have := (k10.trans kg11) _ _ hq (by simpa using hf)
              rw [nb11] at this
              cases this) kp11
        have nin11 : ∀ {b : Addr} {ts : List Str}, I11 b = some (.lst (ts.map V.str)) → b ∉ [fd, bg11] := fun {b ts} h hm => by
          rcases List.mem_cons.mp hm with z | hm
          · rw [z] at h
            obtain ⟨_, _, h1, _⟩ := Fg11.keep si11
            rw [h1] at h
            cases h
          · rw [List.mem_singleton.mp hm, eb11] at h
            cases ts with
            | nil => cases h
            | cons t ts => cases h
        have ew11 := kp11 _ _ (si11 _ _ ewg11) (nin11 (si11 _ _ ewg11))
        have em11 := kp11 _ _ (si11 _ _ emg11) (nin11 (si11 _ _ emg11))
        have hsz11 := sz_pos p11
        have t10_11 : Tps H10 H11 := ((F10.tps kg11).trans (Same.tps si11)).trans (kp11.tps (by
          intro b hb xs e
          rcases List.mem_cons.mp hb with rfl | hb
          · obtain ⟨_, _, h1, _⟩ := Fg11.keep si11
            rw [h1] at e; cases e
          · rw [List.mem_singleton.mp hb, eb11] at e; cases e))
        exact hnx _ _ ⟨v10, v11, p10, p11, rfl, k11, dp10.mono t10_11, dp11, ⟨pin10, by omega, by omega, by omega⟩, ⟨pin11, by omega, by omega, by omega⟩, fun _ z => absurd z (by omega)⟩
      · exact hnx _ _ ⟨v7, v8, p7, p8, rfl, k09, dp7, dp8, raw7.good, raw8.good, fun _ _ => ⟨raw7, raw8⟩⟩
    clear raw7 raw8 dp7 dp8 k09 ew9 em9 F9
    -- way 1
    rintro σ' H12 ⟨v, u, p, r, rfl, k12, dv, du, gp, gr, raw⟩
    refine mergeS (fun σ' H' => ∃ (v u : V) (p r : Pat), σ' = [some (.ref fd), some (.ref wl), some (.ref ml), some v, some u, some (vn way)] ∧ Kp [fd] H H' ∧ Dn H' v (pkey p) ∧ Dn H' u (pkey r) ∧ Good ws ms p ∧ Good ws ms r ∧ (1 < way → way ≤ 5 → Raw ws ms p ∧ Raw ws ms r)) (fun nx hnx => ?_) ?_
    · refine ⟨vn way, rfl, rfl, _, rfl, ?_⟩
      refine ite2 (fun h5 => ?_) (fun h5 => ?_)
      · have h5 : way = 1 := by have := V.int.inj (of_decide_eq_true h5); omega
        obtain ⟨rp, rr⟩ := raw (by omega) (by omega)
        refine ⟨u, rfl, v, rfl, by show 2 ≤ 1000; decide, fun t Ha sa na ea => ⟨by show 2 ≤ 1000; decide, fun z Hb sb nb eb => ?_⟩⟩
        have sab := Same.trans sa sb
        have D : Dn Hb (.ref z) (pkey (.eit [r, p])) := .tup eb (.cons (.text _) (.cons (.tup (sb _ _ ea) (.cons (du.mono (Same.tps sab)) (.cons (dv.mono (Same.tps sab)) .nil))) .nil))
        refine hnx _ _ ⟨v, .ref z, p, .eit [r, p], rfl, k12.trans (Kp.of sab), dv.mono (Same.tps sab), D, gp, ⟨PIn.eit (two_mem (rr.pin) (rp.pin)), ?_, ?_, ?_⟩, fun z => absurd z (by omega)⟩
        · have := rp.sz; have := rr.sz; simp only [sz, szs]; omega
        · have := rp.nst; have := rr.nst; simp only [nst, nsts]; omega
        · have := rp.dep; have := rr.dep
          have e : (pkey (.eit [r, p])).depth = max 0 (max (max (pkey r).depth (max (pkey p).depth 0) + 1) 0) + 1 := rfl
          omega
      · have h5 : way ≠ 1 := fun z => h5 (by rw [z]; exact decide_eq_true rfl)
        exact hnx _ _ ⟨v, u, p, r, rfl, k12, dv, du, gp, gr, fun z => raw (by omega)⟩
    clear dv du gp gr raw k12
    rintro σ' H12 ⟨v, u, p, r, rfl, k12, dv, du, gp, gr, raw⟩
    -- way 2
    refine mergeS (fun σ' H' => ∃ (v u : V) (p r : Pat), σ' = [some (.ref fd), some (.ref wl), some (.ref ml), some v, some u, some (vn way)] ∧ Kp [fd] H H' ∧ Dn H' v (pkey p) ∧ Dn H' u (pkey r) ∧ Good ws ms p ∧ Good ws ms r ∧ (2 < way → way ≤ 5 → Raw ws ms p ∧ Raw ws ms r)) (fun nx hnx => ?_) ?_
    · refine ⟨vn way, rfl, rfl, _, rfl, ?_⟩
      refine ite2 (fun h5 => ?_) (fun h5 => ?_)
      · have h5 : way = 2 := by have := V.int.inj (of_decide_eq_true h5); omega
        obtain ⟨rp, rr⟩ := raw (by omega) (by omega)
        refine ⟨v, rfl, by show 2 ≤ 1000; decide, fun z Hb sb nb eb => ?_⟩
        have D : Dn Hb (.ref z) (pkey (.many p)) := .tup eb (.cons (.text _) (.cons (dv.mono (Same.tps sb)) .nil))
        refine hnx _ _ ⟨v, .ref z, p, .many p, rfl, k12.trans (Kp.of sb), dv.mono (Same.tps sb), D, gp, ⟨PIn.many rp.pin, ?_, ?_, ?_⟩, fun z => absurd z (by omega)⟩
        · have := rp.sz; simp only [sz]; omega
        · have := rp.nst; simp only [nst]; omega
        · have := rp.dep
          have e : (pkey (.many p)).depth = max 0 (max ((pkey p).depth) 0) + 1 := rfl
          omega
      · have h5 : way ≠ 2 := fun z => h5 (by rw [z]; exact decide_eq_true rfl)
        exact hnx _ _ ⟨v, u, p, r, rfl, k12, dv, du, gp, gr, fun z => raw (by omega)⟩
    clear dv du gp gr raw k12
    rintro σ' H12 ⟨v, u, p, r, rfl, k12, dv, du, gp, gr, raw⟩
    -- way 3
    refine mergeS (fun σ' H' => ∃ (v u : V) (p r : Pat), σ' = [some (.ref fd), some (.ref wl), some (.ref ml), some v, some u, some (vn way)] ∧ Kp [fd] H H' ∧ Dn H' v (pkey p) ∧ Dn H' u (pkey r) ∧ Good ws ms p ∧ Good ws ms r ∧ (3 < way → way ≤ 5 → Raw ws ms p ∧ Raw ws ms r)) (fun nx hnx => ?_) ?_
    · refine ⟨vn way, rfl, rfl, _, rfl, ?_⟩
      refine ite2 (fun h5 => ?_) (fun h5 => ?_)
      · have h5 : way = 3 := by have := V.int.inj (of_decide_eq_true h5); omega
        obtain ⟨rp, rr⟩ := raw (by omega) (by omega)
        refine ⟨u, rfl, by show 2 ≤ 1000; decide, fun y Ha sa na ea => ⟨v, rfl, by show 2 ≤ 1000; decide, fun t Hb sb nb eb => ⟨by show 2 ≤ 1000; decide, fun z Hc sc nc ec => ?_⟩⟩⟩
        have sac := Same.trans (Same.trans sa sb) sc
        have D1 : Dn Hc (.ref y) (pkey (.many r)) := .tup (sc _ _ (sb _ _ ea)) (.cons (.text _) (.cons (du.mono (Same.tps sac)) .nil))
        have D : Dn Hc (.ref z) (pkey (.thn [.many r, p])) := .tup ec (.cons (.text _) (.cons (.tup (sc _ _ eb) (.cons D1 (.cons (dv.mono (Same.tps sac)) .nil))) .nil))
        refine hnx _ _ ⟨v, .ref z, p, .thn [.many r, p], rfl, k12.trans (Kp.of sac), dv.mono (Same.tps sac), D, gp, ⟨PIn.thn (two_mem (PIn.many rr.pin) (rp.pin)), ?_, ?_, ?_⟩, fun z => absurd z (by omega)⟩
        · have := rp.sz; have := rr.sz; simp only [sz, szs]; omega
        · have := rp.nst; have := rr.nst; simp only [nst, nsts]; omega
        · have := rp.dep; have := rr.dep
          have e : (pkey (.thn [.many r, p])).depth = max 0 (max (max (max 0 (max ((pkey r).depth) 0) + 1) (max (pkey p).depth 0) + 1) 0) + 1 := rfl
          omega
      · have h5 : way ≠ 3 := fun z => h5 (by rw [z]; exact decide_eq_true rfl)
        exact hnx _ _ ⟨v, u, p, r, rfl, k12, dv, du, gp, gr, fun z => raw (by omega)⟩
    clear dv du gp gr raw k12
    rintro σ' H12 ⟨v, u, p, r, rfl, k12, dv, du, gp, gr, raw⟩
    -- way 4
    refine mergeS (fun σ' H' => ∃ (v u : V) (p r : Pat), σ' = [some (.ref fd), some (.ref wl), some (.ref ml), some v, some u, some (vn way)] ∧ Kp [fd] H H' ∧ Dn H' v (pkey p) ∧ Dn H' u (pkey r) ∧ Good ws ms p ∧ Good ws ms r ∧ (4 < way → way ≤ 5 → Raw ws ms p ∧ Raw ws ms r)) (fun nx hnx => ?_) ?_
    · refine ⟨vn way, rfl, rfl, _, rfl, ?_⟩
      refine ite2 (fun h5 => ?_) (fun h5 => ?_)
      · have h5 : way = 4 := by have := V.int.inj (of_decide_eq_true h5); omega
        obtain ⟨rp, rr⟩ := raw (by omega) (by omega)
        refine ⟨v, rfl, u, rfl, by show 2 ≤ 1000; decide, fun t Ha sa na ea => ⟨by show 2 ≤ 1000; decide, fun y Hb sb nb eb => ?_⟩⟩
        have sab := Same.trans sa sb
        have D1 : Dn Hb (.ref y) (pkey (.thn [p, r])) := .tup eb (.cons (.text _) (.cons (.tup (sb _ _ ea) (.cons (dv.mono (Same.tps sab)) (.cons (du.mono (Same.tps sab)) .nil))) .nil))
        refine ⟨_, rfl, 1, _, _, rfl, D1, rfl, fun x1 d1 => ⟨1, _, _, rfl, d1, rfl, fun x2 d2 => ⟨_, rfl, 1, _, _, rfl, D1, rfl, fun x3 d3 => ⟨0, _, _, rfl, d3, rfl, fun x4 d4 => ⟨by show 2 ≤ 1000; decide, fun z1 Hc sc nc ec => ⟨by show 2 ≤ 1000; decide, fun z2 Hd sd nd ed => ⟨by show 2 ≤ 1000; decide, fun z3 He se ne ee => ?_⟩⟩⟩⟩⟩⟩⟩
        have sbe := Same.trans (Same.trans sc sd) se
        have D2 : Dn He (.ref z2) (pkey (.eit [r, p])) := .tup (se _ _ ed) (.cons (.text _) (.cons (.tup (se _ _ (sd _ _ ec)) (.cons (d2.mono (Same.tps sbe)) (.cons (d4.mono (Same.tps sbe)) .nil))) .nil))
        have D3 : Dn He (.ref z3) (pkey (.many (.eit [r, p]))) := .tup ee (.cons (.text _) (.cons D2 .nil))
        have pn : ∀ q ∈ [p, r], PIn ws ms q := two_mem rp.pin rr.pin
        have pn2 : ∀ q ∈ [r, p], PIn ws ms q := two_mem rr.pin rp.pin
        have h1 := rp.sz
        have h2 := rr.sz
        have h3 := rp.nst
        have h4 := rr.nst
        have h6 := rp.dep
        have h7 := rr.dep
        have e1 : (pkey (.thn [p, r])).depth = max 0 (max (max (pkey p).depth (max (pkey r).depth 0) + 1) 0) + 1 := rfl
        have e2 : (pkey (.many (.eit [r, p]))).depth = max 0 (max (max 0 (max (max (pkey r).depth (max (pkey p).depth 0) + 1) 0) + 1) 0) + 1 := rfl
        refine hnx _ _ ⟨.ref y, .ref z3, .thn [p, r], .many (.eit [r, p]), rfl, (k12.trans (Kp.of sab)).trans (Kp.of sbe), D1.mono (Same.tps sbe), D3, ⟨PIn.thn pn, by simp only [sz, szs]; omega, by simp only [nst, nsts]; omega, by omega⟩, ⟨PIn.many (PIn.eit pn2), by simp only [sz, szs]; omega, by simp only [nst, nsts]; omega, by omega⟩, fun z => absurd z (by omega)⟩
      · have h5 : way ≠ 4 := fun z => h5 (by rw [z]; exact decide_eq_true rfl)
        exact hnx _ _ ⟨v, u, p, r, rfl, k12, dv, du, gp, gr, fun z => raw (by omega)⟩
    clear dv du gp gr raw k12
    rintro σ' H12 ⟨v, u, p, r, rfl, k12, dv, du, gp, gr, raw⟩
    -- way 5
    refine mergeS (fun σ' H' => ∃ (v u : V) (p r : Pat), σ' = [some (.ref fd), some (.ref wl), some (.ref ml), some v, some u, some (vn way)] ∧ Kp [fd] H H' ∧ Dn H' v (pkey p) ∧ Dn H' u (pkey r) ∧ Good ws ms p ∧ Good ws ms r) (fun nx hnx => ?_) ?_
    · refine ⟨vn way, rfl, rfl, _, rfl, ?_⟩
      refine ite2 (fun h5 => ?_) (fun h5 => ?_)
      · have h5 : way = 5 := by have := V.int.inj (of_decide_eq_true h5); omega
        obtain ⟨rp, rr⟩ := raw (by omega) (by omega)
        refine ⟨v, rfl, by show 1 ≤ 1000; decide, fun y Ha sa na ea => ⟨by show 2 ≤ 1000; decide, fun t Hb sb nb eb => ⟨by show 2 ≤ 1000; decide, fun z Hc sc nc ec => ?_⟩⟩⟩
        have sac := Same.trans (Same.trans sa sb) sc
        have D1 : Dn Hc (.ref y) (pkey .stay) := .tup (sc _ _ (sb _ _ ea)) (.cons (.text _) .nil)
        have D : Dn Hc (.ref z) (pkey (.thn [p, .stay])) := .tup ec (.cons (.text _) (.cons (.tup (sc _ _ eb) (.cons (dv.mono (Same.tps sac)) (.cons D1 .nil))) .nil))
        refine hnx _ _ ⟨v, .ref z, p, .thn [p, .stay], rfl, k12.trans (Kp.of sac), dv.mono (Same.tps sac), D, gp, ⟨PIn.thn (two_mem rp.pin (PIn.leaf trivial)), ?_, ?_, ?_⟩⟩
        · have := rp.sz; simp only [sz, szs]; omega
        · have := rp.nst; simp only [nst, nsts]; omega
        · have := rp.dep
          have e : (pkey (.thn [p, .stay])).depth = max 0 (max (max (pkey p).depth (max 1 0) + 1) 0) + 1 := rfl
          omega
      · exact hnx _ _ ⟨v, u, p, r, rfl, k12, dv, du, gp, gr⟩
    clear dv du gp gr raw k12
    rintro σ' H12 ⟨v, u, p, r, rfl, k12, dv, du, gp, gr⟩
    refine ⟨v, rfl, u, rfl, by show 2 ≤ 1000; decide, fun t Ha sa na ea => ?_⟩
    exact fin t v u p r ws ms Ha (k12.trans (Kp.of sa)) ea (dv.mono (Same.tps sa)) (du.mono (Same.tps sa)) lws lms hws hms gp gr
end
end Pk
namespace Pk
set_option autoImplicit false
set_option maxRecDepth 100000
set_option maxHeartbeats 4000000
open PySem PySem.Spec PyProof.Rows L2
theorem sc_L_ends : FnScope ["_law_pattern_here", "_law_line", "_law_at", "_law_good", "_law_spots", "_law_k", "_law_one", "_law_behind", "_law_spot", "_law_end"] ["_law_pattern_here", "_law_line", "_law_at"] d_L_ends.scope := ⟨rfl, rfl, rfl, by decide +kernel, rfl, by decide +kernel, by decide +kernel⟩
theorem sc_L_right : FnScope ["_law_pattern_here", "_law_line"] ["_law_pattern_here", "_law_line"] d_L_right.scope := ⟨rfl, rfl, rfl, by decide +kernel, rfl, by decide +kernel, by decide +kernel⟩
/-- a line stands at v -/
structure LineD (H : Hp) (v : V) (mss : List (List Str)) (steps : List (Str × Str)) : Prop where
  ex : ∃ (la ml sl : Addr) (mvs svs : List V), v = .ref la ∧ H la = some (.tup [.ref ml, .ref sl]) ∧ H ml = some (.lst mvs) ∧ DnAll H mvs (mss.map tk) ∧ H sl = some (.lst svs) ∧ DnAll H svs (steps.map skey)
  len : mss.length = steps.length + 1
  small : steps.length ≤ 64
theorem LineD.keep {H H' : Hp} {v : V} {mss : List (List Str)} {steps : List (Str × Str)} (l : LineD H v mss steps) (s : Same H H') : LineD H' v mss steps := ⟨let ⟨la, ml, sl, mvs, svs, a, b, c, d, e, f⟩ := l.ex; ⟨la, ml, sl, mvs, svs, a, s _ _ b, s _ _ c, d.mono (Same.tps s), s _ _ e, f.mono (Same.tps s)⟩, l.len, l.small⟩
theorem tk_inv {H : Hp} {v : V} {ts : List Str} (h : Dn H v (tk ts)) : ∃ a, v = .ref a ∧ H a = some (.tup (ts.map V.str)) := by
  obtain ⟨a, xs, rfl, e, r⟩ := h.tup_inv
  rw [DnAll.texts.mp r] at e
  exact ⟨a, rfl, e⟩
/-- what is new is put behind -/
def addN (js es : List Nat) : List Nat := js ++ es.filter fun x => !decide (x ∈ js)
theorem mem_addN {js es : List Nat} {x : Nat} : x ∈ addN js es ↔ x ∈ js ∨ x ∈ es := by
  unfold addN
  rw [List.mem_append, List.mem_filter]
  constructor
  · rintro (h | h)
    · exact .inl h
    · exact .inr h.1
  · rintro (h | h)
    · exact .inl h
    · by_cases hx : x ∈ js
      · exact .inl hx
      · exact .inr ⟨h, by rw [decide_eq_false hx] <;> rfl⟩
theorem nodup_addN {js es : List Nat} (h : js.Nodup) (k : es.Nodup) : (addN js es).Nodup := by
  refine List.nodup_append.mpr ⟨h, k.filter _, fun a ha b hb e => ?_⟩
  have := (List.mem_filter.mp hb).2
  rw [← e, decide_eq_true ha] at this
  cases this
/-- [x for x in es if x not in js] -/
theorem comp_new {K : PySem.W.Frag} {c b : Nat} {σ : L2.St} {H1 : Hp} {ea ba D : Addr} {es js : List Nat} {Qd : Hp → Prop} (h1 : ∀ x, ((wipe σ [c]).set c (some x))[c]? = some (some x)) (h2 : ∀ x, ((wipe σ [c]).set c (some x))[b]? = some (some (.ref ba))) (h3 : ∀ x, wipe ((wipe σ [c]).set c (some x)) [c] = wipe σ [c])
    (nD : H1 D = none) (e1 : H1 ea = some (.lst (es.map vn))) (e2 : H1 ba = some (.lst (js.map vn))) (hl : es.length ≤ 100) (hd : ∀ H, Same H1 H → H D = some (.lst ((es.filter fun x => !decide (x ∈ js)).map vn)) → Qd H) :
    ∃ W : Nat → Nat → Hp → Prop, (∃ m, W 0 m (upd H1 D (.lst []))) ∧ ∀ i m H, W i m H →
      ((Itl K ea).stop i H ∧ Qd H) ∨ ((Itl K ea).go i H ∧ ∃ Nx : Hp → Prop, (∀ H', Nx H' → ∃ m', m' < m ∧ W (i + 1) m' H') ∧ ∀ x H', (Itl K ea).yld i H x H' → gName c x (wipe σ [c]) H' fun σ2 H2 => wipe σ2 [c] = wipe σ [c] ∧ (tTest (tOp (rNotInN K) (tVar c) (tVar b))) σ2 H2 fun b H3 =>
        if b = true then tVar c σ2 H3 fun y H4 => ∃ acc, H4 D = some (.lst acc) ∧ acc.length < sizeLine ∧ Nx (upd H4 D (.lst (acc ++ [y]))) else Nx H3) := by
  refine lc_list (K := K) (a := ea) (xs := es.map vn) (fun j Hy => Same H1 Hy ∧ Hy D = some (.lst (((es.take j).filter fun x => !decide (x ∈ js)).map vn))) ⟨Same.new nD, upd_same⟩ (fun j Hy _ ⟨sy, _⟩ => .inl (.inl (sy _ _ e1))) ?_ ?_
  · rintro j x Hy hj ⟨sy, eD⟩
    rw [List.getElem?_map] at hj
    cases ez : es[j]? with
    | none => rw [ez] at hj; cases hj
    | some z =>
      rw [ez] at hj
      cases hj
      rw [take_snoc ez, List.filter_append]
      refine ⟨h3 _, vn z, h1 _, .ref ba, h2 _, z, ba, js, rfl, rfl, .inl (.inl (.inl (sy _ _ e2))), _, rfl, ?_⟩
      have hlen : (((es.take j).filter fun x => !decide (x ∈ js)).map vn).length ≤ 100 := by
        rw [List.length_map]
        refine Nat.le_trans (List.length_filter_le _ _) ?_
        rw [List.length_take]
        omega
      refine ite2 (fun e => ?_) (fun e => ?_)
      · refine ⟨_, h1 _, _, eD, small_lt hlen (by decide), But.same nD sy But.upd, ?_⟩
        rw [upd_same, List.map_append, List.filter_cons_of_pos (p := fun x => !decide (x ∈ js)) e] <;> rfl
      · rw [List.filter_cons_of_neg (p := fun x => !decide (x ∈ js)) e]
        rw [List.filter_nil, List.append_nil]
        exact ⟨sy, eD⟩
  · rintro Hy ⟨sy, eD⟩
    rw [List.length_map, List.take_length] at eD
    exact hd Hy sy eD
section
variable {P : Program} {w : World} {K : PySem.W.Frag} {mg : Str → Option Value} {base : Heap}
def sqEnds (N : Nat) : Sq := fun vs H Q => ∃ (v lv : V) (i : Nat) (p : Pat) (mss : List (List Str)) (steps : List (Str × Str)), vs = [v, lv, vn i] ∧ sz p ≤ N ∧ Dn H v (pkey p) ∧ LineD H lv mss steps ∧ i ≤ steps.length ∧
  ∀ (a : Addr) (js : List Nat) (H' : Hp), Same H H' → H a = none → H' a = some (.lst (js.map vn)) → js.Nodup → (∀ j, j ∈ js ↔ Fit (lnOf mss steps) p i j) → Q (.ref a) H'
theorem ends0 (W : Wd K mg) : Cl P w K mg base "_law_ends" ["_law_pattern_here", "_law_line", "_law_at"] 1 (sqEnds 0) := by
  refine mk_cl W 30 20 (d := d_L_ends) rfl rfl rfl rfl sc_L_ends (fun _ _ _ _ _ _ us hl => match us, hl with | [_, _, _], _ => rfl) (fun vs H Q h => ?_) (fun f cdv A outer s H vs Q E hr h => ?_)
  · obtain ⟨v, lv, i, p, mss, steps, rfl, _⟩ := h
    rfl
  · obtain ⟨v, lv, i, p, mss, steps, rfl, hz, _⟩ := h
    have := sz_pos p
    omega
theorem ok_L_ends {N : Nat} (W : Wd K mg) (c_L_ends : Cl P w K mg base "_law_ends" ["_law_pattern_here", "_law_line", "_law_at"] (N + 1) (sqEnds N)) : Cl P w K mg base "_law_ends" ["_law_pattern_here", "_law_line", "_law_at"] (N + 2) (sqEnds (N + 1)) := by
  refine mk_cl W 30 20 (d := d_L_ends) rfl rfl rfl rfl sc_L_ends (fun _ _ _ _ _ _ us hl => match us, hl with | [_, _, _], _ => rfl) (fun vs H Q h => ?_) (fun f cdv A outer s H vs Q E hr h => ?_)
  · obtain ⟨v, lv, i, p, mss, steps, rfl, _⟩ := h
    rfl
  · obtain ⟨v, lv, i, p, mss, steps, rfl, hz, hp, LD, hi, q⟩ := h
    obtain ⟨la, ml, sl, mvs, svs, rfl, ela, eml, dml, esl, dsl⟩ := LD.ex
    obtain ⟨n, en⟩ : ∃ n, n = steps.length := ⟨_, rfl⟩
    have hn64 := LD.small
    have hlen := LD.len
    rw [← en] at hi hn64 hlen
    have hsl : svs.length = n := by rw [dsl.length, List.length_map, en]
    obtain ⟨Ln, eL⟩ : ∃ Ln, Ln = lnOf mss steps := ⟨_, rfl⟩
    rw [← eL] at q
    have hLn : Ln.steps.length = n := by rw [eL, en] <;> rfl
    have jl : ∀ js : List Nat, js.Nodup → (∀ j ∈ js, j ≤ n) → js.length ≤ n + 1 := fun js nd h => lt_len nd fun j hj => by have := h j hj; omega
    refine ⟨_, (pss_cons (ps_if (pt_cmpR (op_eqTag .stay) (pe_ix ix_tag (pv 0) pe_int (fun _ _ => rfl)) pe_str (nomark _))
        (pss_one (ps_ret (pe_lstN (pa_cons (pv 2) pa_nil))))
        pss_nil)
      (pss_cons (ps_if (pt_cmpR (op_inTag [.att, .off]) (pe_ix ix_tag (pv 0) pe_int (fun _ _ => rfl)) (pe_tupN (pa_cons pe_str (pa_cons pe_str pa_nil))) (by rfl))
        (pss_one (ps_ret (pe_slice n_cut (pe_lstN (pa_cons (pv 2) pa_nil)) po_none (po_some (pe_callTy call_int1 (by rfl) (W.free 42) (by decide +kernel) (pa_cons (pe_cmpR op_eq (pe_cmpR op_inT (pe_ix ix_key (pv 0) pe_int (fun _ _ => rfl)) (pe_ix ix_list (pe_ix ix_tup (pv 1) pe_int (fun _ _ => rfl)) (pv 2) (fun _ _ => rfl)) (by rfl)) (pe_cmpR (op_eqTag .att) (pe_ix ix_tag (pv 0) pe_int (fun _ _ => rfl)) pe_str (nomark _)) (nomark _)) pa_nil))))))
        pss_nil)
      (pss_cons (ps_if (pt_cmpR (op_eqTag .step) (pe_ix ix_tag (pv 0) pe_int (fun _ _ => rfl)) pe_str (nomark _))
        (pss_cons (ps_set (i := 3) sc_L_ends.nd rfl (Or.inl rfl) (pe_and (pe_cmpR op_lt (pv 2) (pe_callB call_len (by rfl) (W.free 32) PySem.boot_len (pa_cons (pe_ix ix_tup (pv 1) pe_int (fun _ _ => rfl)) pa_nil)) (nomark _)) (pe_and (pe_cmpR op_eqT (pe_ix ix_key (pe_ix ix_list (pe_ix ix_tup (pv 1) pe_int (fun _ _ => rfl)) (pv 2) (fun _ _ => rfl)) pe_int (fun _ _ => rfl)) (pe_ix ix_key (pv 0) pe_int (fun _ _ => rfl)) (nomark _)) (pe_one (pe_cmpR op_inT (pe_ix ix_key (pv 0) pe_int (fun _ _ => rfl)) (pe_tupN (pa_cons pe_str (pa_cons (pe_ix ix_key (pe_ix ix_list (pe_ix ix_tup (pv 1) pe_int (fun _ _ => rfl)) (pv 2) (fun _ _ => rfl)) pe_int (fun _ _ => rfl)) pa_nil))) (by rfl))))))
        (pss_one (ps_ret (pe_slice n_cut (pe_lstN (pa_cons (pe_op op_add (pv 2) pe_int) pa_nil)) po_none (po_some (pe_callTy call_int1 (by rfl) (W.free 42) (by decide +kernel) (pa_cons (pv 3) pa_nil)))))))
        pss_nil)
      (pss_cons (ps_set (i := 4) sc_L_ends.nd rfl (Or.inr rfl) (pe_lstN (pa_cons (pv 2) pa_nil)))
      (pss_cons (ps_if (pt_cmpR (op_eqTag .many) (pe_ix ix_tag (pv 0) pe_int (fun _ _ => rfl)) pe_str (nomark _))
        (pss_cons (ps_set (i := 5) sc_L_ends.nd rfl (Or.inl rfl) pe_int)
        (pss_cons (ps_while PassesOwn.never (pt_cmpR op_lt (pv 5) (pe_callB call_len (by rfl) (W.free 32) PySem.boot_len (pa_cons (pv 4) pa_nil)) (nomark _))
          (pss_cons (ps_set (i := 4) sc_L_ends.nd rfl (Or.inr rfl) (pe_op n_cat (pv 4) (pe_lc (own := [("_law_one", 6)]) rfl sc_L_ends.nd (pi_list (pe_fn c_L_ends (hr.mono (by omega)) (by rfl) (pa_cons (pe_ix ix_key (pv 0) pe_int (fun _ _ => rfl)) (pa_cons (pv 1) (pa_cons (pe_ix ix_list (pv 4) (pv 5) (fun _ _ => rfl)) pa_nil))))) (blkOk_by (own := [("_law_one", 6)]) (N := ["_law_pattern_here", "_law_line", "_law_at", "_law_good", "_law_spots", "_law_k", "_law_one", "_law_behind", "_law_spot", "_law_end"]) (sc := d_L_ends.scope) (by decide +kernel)) (fun _ _ _ _ _ => (pg_name (i := 6) sc_L_ends.nd rfl (Or.inl rfl))) (fun _ _ _ _ _ => (pts_one (pt_cmpR (show OpR _ _ (rNotInN K) from op_notInN) (pv 6) (pv 4) (by rfl)))) (fun _ _ _ _ _ => (pv 6)))))
          (pss_one (ps_set (i := 5) sc_L_ends.nd rfl (Or.inl rfl) (pe_op op_add (pv 5) pe_int)))))
        (pss_one (ps_ret (pv 4)))))
        pss_nil)
      (pss_cons (ps_set (i := 7) sc_L_ends.nd rfl (Or.inr rfl) (pe_lstN pa_nil))
      (pss_cons (ps_for PassesOwn.never rfl (pi_tup (pe_ix ix_key (pv 0) pe_int (fun _ _ => rfl))) (pg_name (i := 6) sc_L_ends.nd rfl (Or.inl rfl))
        (pss_cons (ps_if (pt_cmpR (op_eqTag .thn) (pe_ix ix_tag (pv 0) pe_int (fun _ _ => rfl)) pe_str (nomark _))
          (pss_one (ps_set (i := 7) sc_L_ends.nd rfl (Or.inr rfl) (pe_lstN pa_nil)))
          pss_nil)
        (pss_cons (ps_for PassesOwn.never rfl (pi_list (pv 4)) (pg_name (i := 8) sc_L_ends.nd rfl (Or.inl rfl))
          (pss_one (ps_set (i := 7) sc_L_ends.nd rfl (Or.inr rfl) (pe_op n_cat (pv 7) (pe_lc (own := [("_law_end", 9)]) rfl sc_L_ends.nd (pi_list (pe_fn c_L_ends (hr.mono (by omega)) (by rfl) (pa_cons (pv 6) (pa_cons (pv 1) (pa_cons (pv 8) pa_nil))))) (blkOk_by (own := [("_law_end", 9)]) (N := ["_law_pattern_here", "_law_line", "_law_at", "_law_good", "_law_spots", "_law_k", "_law_one", "_law_behind", "_law_spot", "_law_end"]) (sc := d_L_ends.scope) (by decide +kernel)) (fun _ _ _ _ _ => (pg_name (i := 9) sc_L_ends.nd rfl (Or.inl rfl))) (fun _ _ _ _ _ => (pts_one (pt_cmpR (show OpR _ _ (rNotInN K) from op_notInN) (pv 9) (pv 7) (by rfl)))) (fun _ _ _ _ _ => (pv 9)))))))
        (pss_one (ps_if (pt_cmpR (op_eqTag .thn) (pe_ix ix_tag (pv 0) pe_int (fun _ _ => rfl)) pe_str (nomark _))
          (pss_one (ps_set (i := 4) sc_L_ends.nd rfl (Or.inr rfl) (pv 7)))
          pss_nil)))))
      (pss_one (ps_ret (pe_ifExp (pt_cmpR (op_eqTag .thn) (pe_ix ix_tag (pv 0) pe_int (fun _ _ => rfl)) pe_str (nomark _)) (pv 4) (pv 7))))))))))), ?_⟩
    refine ⟨v, rfl, rfl, p, hp, p, rfl, rfl, _, rfl, ?_⟩
    have tt : ∀ {Hx : Hp} {t : Addr}, Hx t = none → True := fun _ => trivial
    cases p with
    | stay =>
      refine iteT ?_
      refine ⟨vn i, rfl, by show 1 ≤ 1000; decide, fun a H1 s1 na ea => ?_⟩
      exact q a [i] H1 s1 na ea (by simp) fun j => by rw [List.mem_singleton, Fit]; exact eq_comm
    | att m =>
      refine iteF ?_
      refine ⟨v, rfl, rfl, _, hp, by show 2 ≤ 1000; decide, fun t H1 s1 nt et => ⟨_, t, rfl, rfl, .inl (.inl et), _, rfl, ?_⟩⟩
      refine iteT ?_
      refine ⟨vn i, rfl, by show 1 ≤ 1000; decide, fun a H2 s2 na ea => ?_⟩
      have s12 := Same.trans s1 s2
      have hmi : i < mss.length := by omega
      obtain ⟨mv, emv, dmv⟩ := (dml.mono (Same.tps s12)).get (i := i) (k := tk mss[i]) (by rw [List.getElem?_map, List.getElem?_eq_getElem hmi] <;> rfl)
      obtain ⟨ma, rfl, ema⟩ := tk_inv dmv
      refine ⟨v, rfl, 1, _, _, rfl, hp.mono (Same.tps s12), rfl, fun u du => ?_⟩
      refine ⟨.ref la, rfl, la, _, 0, .ref ml, rfl, rfl, .inl (.inl (s12 _ _ ela)), atI_nat (j := 0) rfl, vn i, rfl, ml, mvs, i, .ref ma, rfl, rfl, .inl (.inl (s12 _ _ eml)), atI_nat emv, m, ma, mss[i], du.text_inv, rfl, .inr (.inl (.inl ema)), ?_⟩
      refine ⟨v, rfl, rfl, _, hp.mono (Same.tps s12), _, rfl, rfl, rfl, .inr ⟨_, rfl, ?_⟩⟩
      have em : Ln.mks i m = decide (m ∈ mss[i]) := by
        rw [eL]
        show mkOf (mss.getD i []) m = _
        rw [List.getD_eq_getElem?_getD, List.getElem?_eq_getElem hmi] <;> rfl
      rw [← em]
      refine ⟨_, rfl, a, _, rfl, .inl (.inl ea), fun b H3 s3 nb eb => ?_⟩
      have hb0 := Same.free s12 nb
      cases hm : Ln.mks i m with
      | true =>
        rw [hm] at eb
        refine q b [i] H3 (Same.trans s12 s3) hb0 eb (by simp) fun j => ?_
        rw [List.mem_singleton, Fit, hm]
        exact ⟨fun e => ⟨e.symm, rfl⟩, fun e => e.1.symm⟩
      | false =>
        rw [hm] at eb
        refine q b [] H3 (Same.trans s12 s3) hb0 eb (by simp) fun j => ?_
        rw [Fit, hm]
        exact ⟨fun e => (by cases e), fun e => (by cases e.2)⟩
    | off m =>
      refine iteF ?_
      refine ⟨v, rfl, rfl, _, hp, by show 2 ≤ 1000; decide, fun t H1 s1 nt et => ⟨_, t, rfl, rfl, .inl (.inl et), _, rfl, ?_⟩⟩
      refine iteT ?_
      refine ⟨vn i, rfl, by show 1 ≤ 1000; decide, fun a H2 s2 na ea => ?_⟩
      have s12 := Same.trans s1 s2
      have hmi : i < mss.length := by omega
      obtain ⟨mv, emv, dmv⟩ := (dml.mono (Same.tps s12)).get (i := i) (k := tk mss[i]) (by rw [List.getElem?_map, List.getElem?_eq_getElem hmi] <;> rfl)
      obtain ⟨ma, rfl, ema⟩ := tk_inv dmv
      refine ⟨v, rfl, 1, _, _, rfl, hp.mono (Same.tps s12), rfl, fun u du => ?_⟩
      refine ⟨.ref la, rfl, la, _, 0, .ref ml, rfl, rfl, .inl (.inl (s12 _ _ ela)), atI_nat (j := 0) rfl, vn i, rfl, ml, mvs, i, .ref ma, rfl, rfl, .inl (.inl (s12 _ _ eml)), atI_nat emv, m, ma, mss[i], du.text_inv, rfl, .inr (.inl (.inl ema)), ?_⟩
      refine ⟨v, rfl, rfl, _, hp.mono (Same.tps s12), _, rfl, rfl, rfl, .inr ⟨_, rfl, ?_⟩⟩
      have em : Ln.mks i m = decide (m ∈ mss[i]) := by
        rw [eL]
        show mkOf (mss.getD i []) m = _
        rw [List.getD_eq_getElem?_getD, List.getElem?_eq_getElem hmi] <;> rfl
      rw [← em]
      refine ⟨_, rfl, a, _, rfl, .inl (.inl ea), fun b H3 s3 nb eb => ?_⟩
      have hb0 := Same.free s12 nb
      cases hm : Ln.mks i m with
      | true =>
        rw [hm] at eb
        refine q b [] H3 (Same.trans s12 s3) hb0 eb (by simp) fun j => ?_
        rw [Fit, hm]
        exact ⟨fun e => (by cases e), fun e => (by cases e.2)⟩
      | false =>
        rw [hm] at eb
        refine q b [i] H3 (Same.trans s12 s3) hb0 eb (by simp) fun j => ?_
        rw [List.mem_singleton, Fit, hm]
        exact ⟨fun e => ⟨e.symm, rfl⟩, fun e => e.1.symm⟩
    | step sd wd =>
      refine iteF ?_
      refine ⟨v, rfl, rfl, _, hp, by show 2 ≤ 1000; decide, fun t H1 s1 nt et => ⟨_, t, rfl, rfl, .inl (.inl et), _, rfl, ?_⟩⟩
      refine iteF ?_
      have hp1 := hp.mono (Same.tps s1)
      refine ⟨v, rfl, rfl, _, hp1, _, rfl, rfl, _, rfl, ?_⟩
      refine iteT ?_
      refine mergeS (fun σ' H' => Same H1 H' ∧ ∃ g : Bool, σ' = [some v, some (.ref la), some (vn i), some (.bl g), none, none, none, none, none, none] ∧ (g = true ↔ Fit Ln (.step sd wd) i (i + 1))) (fun nx hnx => ?_) ?_
      · refine ⟨vn i, rfl, .ref la, rfl, la, _, 1, .ref sl, rfl, rfl, .inl (.inl (s1 _ _ ela)), atI_nat (j := 1) rfl, .ref sl, n, rfl, .inl ⟨svs, .inl (.inl (s1 _ _ esl)), by rw [hsl]⟩, _, _, rfl, rfl, _, rfl, ?_⟩
        have hfit : ∀ (sd' wd' : Str), steps[i]? = some (sd', wd') → (Fit Ln (.step sd wd) i (i + 1) ↔ stepBy (.step sd wd) sd' wd' = true) := fun sd' wd' e => by
          rw [Fit, eL]
          constructor
          · rintro ⟨_, a, b, e2, h⟩
            have e2 : steps[i]? = some (a, b) := e2
            rw [e] at e2
            cases e2
            exact h
          · intro h
            exact ⟨rfl, sd', wd', e, h⟩
        refine ite2 (fun hlt => ?_) (fun hlt => ?_)
        · have hlt : i < n := by have := of_decide_eq_true hlt; omega
          have hst : steps[i]? = some steps[i] := List.getElem?_eq_getElem (by omega)
          obtain ⟨⟨sd', wd'⟩, esw⟩ : ∃ sw, sw = steps[i] := ⟨_, rfl⟩
          rw [← esw] at hst
          obtain ⟨sv, esv, dsv⟩ := (dsl.mono (Same.tps s1)).get (i := i) (k := skey (sd', wd')) (by rw [List.getElem?_map, hst] <;> rfl)
          refine ⟨.ref la, rfl, la, _, 1, .ref sl, rfl, rfl, .inl (.inl (s1 _ _ ela)), atI_nat (j := 1) rfl, vn i, rfl, sl, svs, i, sv, rfl, rfl, .inl (.inl (s1 _ _ esl)), atI_nat esv, 0, _, _, rfl, dsv, rfl, fun u0 du0 => ?_⟩
          refine ⟨v, rfl, 1, _, _, rfl, hp1, rfl, fun u1 du1 => ⟨sd', sd, du0.text_inv, du1.text_inv, _, rfl, ?_⟩⟩
          refine ite2 (fun hsd => ?_) (fun hsd => ?_)
          · have hsd := of_decide_eq_true hsd
            refine ⟨v, rfl, 2, _, _, rfl, hp1, rfl, fun u2 du2 => ?_⟩
            refine ⟨.ref la, rfl, la, _, 1, .ref sl, rfl, rfl, .inl (.inl (s1 _ _ ela)), atI_nat (j := 1) rfl, vn i, rfl, sl, svs, i, sv, rfl, rfl, .inl (.inl (s1 _ _ esl)), atI_nat esv, 1, _, _, rfl, dsv, rfl, fun u3 du3 => ⟨by show 2 ≤ 1000; decide, fun tu H2 s2 ntu etu => ?_⟩⟩
            rw [du3.text_inv] at etu
            refine ⟨wd, tu, [star, wd'], du2.text_inv, rfl, .inr (.inl (.inl etu)), hnx _ _ ⟨s2, _, rfl, ?_⟩⟩
            rw [hfit sd' wd' hst, hsd]
            show _ ↔ (decide (sd = sd) && (decide (wd = star) || decide (wd = wd'))) = true
            simp
          · refine hnx _ _ ⟨Same.refl _, false, rfl, ?_⟩
            rw [hfit sd' wd' hst]
            show _ ↔ (decide (sd = sd') && (decide (wd = star) || decide (wd = wd'))) = true
            have : ¬ sd = sd' := fun z => hsd (decide_eq_true z.symm)
            simp [this]
        · refine hnx _ _ ⟨Same.refl _, false, rfl, ⟨fun z => (by cases z), fun z => ?_⟩⟩
          have := fit_le hLn _ _ _ z hi
          have : ¬ ((i : Int) < (n : Int)) := fun z => hlt (decide_eq_true z)
          omega
      · rintro σ' H2 ⟨s2, g, rfl, hg⟩
        have s12 := Same.trans s1 s2
        refine ⟨vn i, rfl, _, _, rfl, rfl, by show 1 ≤ 1000; decide, fun a H3 s3 na ea => ?_⟩
        have ea : H3 a = some (.lst [vn (i + 1)]) := ea
        refine ⟨.bl g, rfl, .inr ⟨g, rfl, _, rfl, a, _, rfl, .inl (.inl ea), fun b H4 s4 nb eb => ?_⟩⟩
        have s14 := Same.trans (Same.trans s12 s3) s4
        have hb0 := Same.free (Same.trans s12 s3) nb
        cases g with
        | true =>
          refine q b [i + 1] H4 s14 hb0 eb (by simp) fun j => ?_
          rw [List.mem_singleton]
          constructor
          · intro e
            rw [e]
            exact hg.mp rfl
          · intro f
            rw [Fit] at f
            exact f.1
        | false =>
          refine q b [] H4 s14 hb0 eb (by simp) fun j => ?_
          refine ⟨fun e => (by cases e), fun f => ?_⟩
          have e1 : j = i + 1 := by
            rw [Fit] at f
            exact f.1
          rw [e1] at f
          have := hg.mpr f
          cases this
    | many p1 =>
      refine iteF ?_
      refine ⟨v, rfl, rfl, _, hp, by show 2 ≤ 1000; decide, fun t H1 s1 nt et => ⟨_, t, rfl, rfl, .inl (.inl et), _, rfl, ?_⟩⟩
      refine iteF ?_
      refine ⟨v, rfl, rfl, _, hp.mono (Same.tps s1), _, rfl, rfl, _, rfl, ?_⟩
      refine iteF ?_
      refine ⟨vn i, rfl, by show 1 ≤ 1000; decide, fun sp H2 s2 nsp esp => ?_⟩
      have esp : H2 sp = some (.lst ([i].map vn)) := esp
      have s02 := Same.trans s1 s2
      have nsp0 : H sp = none := Same.free s1 nsp
      refine ⟨v, rfl, rfl, _, hp.mono (Same.tps s02), _, rfl, rfl, _, rfl, ?_⟩
      refine iteT ?_
      obtain ⟨I, hI⟩ : ∃ I : Nat → L2.St → Hp → Prop, I = fun m σ H' => ∃ (js : List Nat) (k : Nat) (sp : Addr), σ = [some v, some (.ref la), some (vn i), none, some (.ref sp), some (vn k), none, none, none, none] ∧ Same H H' ∧ H' sp = some (.lst (js.map vn)) ∧ H sp = none ∧ js.Nodup ∧ i ∈ js ∧ (∀ j ∈ js, Star (Fit Ln p1) i j ∧ j ≤ n) ∧ (∀ l, l < k → ∀ x, js[l]? = some x → ∀ y, Fit Ln p1 x y → y ∈ js) ∧ k ≤ js.length ∧ m + k = n + 2 := ⟨_, rfl⟩
      refine ⟨I, ⟨n + 2, ?_⟩, ?_⟩
      · rw [hI]
        exact ⟨[i], 0, sp, rfl, s02, esp, nsp0, by simp, by simp, fun j hj => by rw [List.mem_singleton.mp hj]; exact ⟨.refl _, hi⟩, fun l hl => absurd hl (Nat.not_lt_zero _), Nat.zero_le _, rfl⟩
      · clear esp nsp0 nsp s02 s2 et nt s1
        intro mm σ H3 h
        rw [hI] at h
        obtain ⟨js, k, sp, rfl, s3, esp, nsp, nd, hij, hst, hcl, hk, hm⟩ := h
        have hjl := jl js nd fun j hj => (hst j hj).2
        refine ⟨vn k, rfl, .ref sp, rfl, .ref sp, js.length, rfl, .inl ⟨_, .inl (.inl esp), by rw [List.length_map]⟩, _, _, rfl, rfl, _, rfl, ?_⟩
        refine ite2 (fun hlt => ?_) (fun hlt => ?_)
        · have hlt : k < js.length := by have := of_decide_eq_true hlt; omega
          obtain ⟨x, ex⟩ : ∃ x, js[k]? = some x := ⟨_, List.getElem?_eq_getElem hlt⟩
          have hx := hst x (List.mem_of_getElem? ex)
          refine ⟨fun σ' H' => ∃ m', m' < mm ∧ I m' σ' H', fun σ' H' h => h, ?_⟩
          refine ⟨.ref sp, rfl, v, rfl, 1, _, _, rfl, hp.mono (Same.tps s3), rfl, fun u du => ?_⟩
          refine ⟨.ref la, rfl, .ref sp, rfl, vn k, rfl, sp, _, k, vn x, rfl, rfl, .inl (.inl esp), atI_nat (by rw [List.getElem?_map, ex] <;> rfl), u, .ref la, x, p1, mss, steps, rfl, by simp only [sz] at hz; omega, du, LD.keep s3, by omega, fun ea es H4 s4 nea eea nde mem => ?_⟩
          have hes : es.length ≤ 100 := by
            have := jl es nde fun j hj => by
              have f := (mem j).mp hj
              rw [← eL] at f
              exact fit_le hLn _ _ _ f hx.2
            omega
          refine ⟨ea, rfl, ⟨_, .inl (.inl eea)⟩, fun D nD => comp_new (es := es) (js := js) (ba := sp) (fun _ => rfl) (fun _ => rfl) (fun _ => rfl) nD eea (s4 _ _ esp) hes fun H5 s5 eD => ?_⟩
          have hfl : (es.filter fun x => !decide (x ∈ js)).length ≤ 100 := Nat.le_trans (List.length_filter_le _ _) hes
          refine ⟨sp, D, _, _, rfl, rfl, s5 _ _ (s4 _ _ esp), eD, by rw [List.length_map, List.length_map]; omega, fun sp2 H6 s6 nsp2 esp2 => ?_⟩
          rw [← List.map_append] at esp2
          have esp2 : H6 sp2 = some (.lst ((addN js es).map vn)) := esp2
          have s36 := Same.trans (Same.trans s4 s5) s6
          refine ⟨_, rfl, _, _, rfl, rfl, mm - 1, by omega, ?_⟩
          rw [hI]
          have nd2 := nodup_addN nd nde
          refine ⟨addN js es, k + 1, sp2, rfl, Same.trans s3 s36, esp2, Same.free (Same.trans s3 (Same.trans s4 s5)) nsp2, nd2, mem_addN.mpr (.inl hij), fun j hj => ?_, fun l hl y ey z hz' => ?_, ?_, by omega⟩
          · rcases mem_addN.mp hj with h | h
            · exact hst j h
            · have f := (mem j).mp h
              rw [← eL] at f
              exact ⟨hx.1.snoc f, fit_le hLn _ _ _ f hx.2⟩
          · by_cases hlk : l < k
            · have hll : l < js.length := by omega
              have ey2 : js[l]? = some y := by
                unfold addN at ey
                rw [List.getElem?_append_left hll] at ey
                exact ey
              exact mem_addN.mpr (.inl (hcl l hlk y ey2 z hz'))
            · have : l = k := by omega
              subst this
              have ey2 : js[l]? = some y := by
                unfold addN at ey
                rw [List.getElem?_append_left hlt] at ey
                exact ey
              rw [ex] at ey2
              cases ey2
              refine mem_addN.mpr (.inr ((mem z).mpr ?_))
              rw [← eL]
              exact hz'
          · unfold addN
            rw [List.length_append]
            omega
        · have hge : k = js.length := by
            have : ¬ ((k : Int) < (js.length : Int)) := fun z => hlt (decide_eq_true z)
            omega
          refine ⟨.ref sp, rfl, q sp js H3 s3 nsp esp nd fun j => ?_⟩
          rw [Fit]
          refine ⟨fun hj => (hst j hj).1, fun f => star_closed hij (fun x hx y hy => ?_) f⟩
          obtain ⟨l, hl, e⟩ := List.getElem_of_mem hx
          exact hcl l (by omega) x (by rw [List.getElem?_eq_getElem hl, e]) y hy
    | thn ps =>
      refine iteF ?_
      refine ⟨v, rfl, rfl, _, hp, by show 2 ≤ 1000; decide, fun t H1 s1 nt et => ⟨_, t, rfl, rfl, .inl (.inl et), _, rfl, ?_⟩⟩
      refine iteF ?_
      refine ⟨v, rfl, rfl, _, hp.mono (Same.tps s1), _, rfl, rfl, _, rfl, ?_⟩
      refine iteF ?_
      refine ⟨vn i, rfl, by show 1 ≤ 1000; decide, fun sp H2 s2 nsp esp => ?_⟩
      have esp : H2 sp = some (.lst ([i].map vn)) := esp
      have s02 := Same.trans s1 s2
      have nsp0 : H sp = none := Same.free s1 nsp
      refine ⟨v, rfl, rfl, _, hp.mono (Same.tps s02), _, rfl, rfl, _, rfl, ?_⟩
      refine iteF ?_
      refine ⟨Nat.zero_le _, fun bh H3 s3 nbh ebh => ?_⟩
      have s03 := Same.trans s02 s3
      refine ⟨v, rfl, 1, _, _, rfl, hp.mono (Same.tps s03), rfl, fun u du => ?_⟩
      obtain ⟨tv, us, rfl, etv, dus⟩ := du.tup_inv
      rw [pkeys_map] at dus
      have hul : us.length = ps.length := by rw [dus.length, List.length_map]
      simp only [sz] at hz
      refine ⟨tv, rfl, ⟨us, .inl (.inl etv)⟩, for_tup (K := K) (a := tv) (xs := us) (fun idx σ H' => ∃ (sp bh : Addr) (js bs : List Nat) (v6 v8 : Option V), σ = [some v, some (.ref la), some (vn i), none, some (.ref sp), none, v6, some (.ref bh), v8, none] ∧ Same H3 H' ∧ H sp = none ∧ H bh = none ∧ H' sp = some (.lst (js.map vn)) ∧ js.Nodup ∧ (∀ j ∈ js, j ≤ n) ∧ (∀ j, j ∈ js ↔ FitSeq Ln (ps.take idx) i j)) ?_ ?_ ?_ ?_⟩
      · exact ⟨sp, bh, [i], [], none, none, rfl, Same.refl _, nsp0, Same.free s02 nbh, s3 _ _ esp, by simp, fun j hj => by rw [List.mem_singleton.mp hj]; exact hi, fun j => by rw [List.mem_singleton, List.take_zero, FitSeq]; exact eq_comm⟩
      · rintro idx σ H4 hidx ⟨sp, bh, js, bs, v6, v8, rfl, s4, _⟩
        exact .inl (.inl (s4 _ _ etv))
      · rintro idx x σ H4 hidx ⟨sp, bh, js, bs, v6, v8, rfl, s4, nsp, nbh, esp, ndj, hjn, hjs⟩
        obtain ⟨pi, epi, dpi⟩ := dus.at_ hidx
        have pim := List.mem_of_getElem? epi
        have hzi := szs_mem pim
        refine ⟨v, rfl, rfl, _, (hp.mono (Same.tps s03)).mono (Same.tps s4), _, rfl, rfl, _, rfl, ?_⟩
        refine iteT ?_
        refine ⟨Nat.zero_le _, fun bh2 H5 s5 nbh2 ebh2 => ?_⟩
        have s35 := Same.trans s4 s5
        have esp5 := s5 _ _ esp
        have nbh5 : H bh2 = none := Same.free (Same.trans s03 s4) nbh2
        obtain ⟨b0, eb0⟩ : ∃ b0 : List Nat, b0 = [] := ⟨_, rfl⟩
        have ebh5 : H5 bh2 = some (.lst (b0.map vn)) := by rw [eb0]; exact ebh2
        have ndb0 : b0.Nodup := by rw [eb0]; exact List.nodup_nil
        have hb0n : ∀ j ∈ b0, j ≤ n := fun j hj => by rw [eb0] at hj; cases hj
        refine ⟨.ref sp, rfl, sp, rfl, ⟨_, .inl (.inl esp5)⟩, for_list (K := K) (a := sp) (xs := js.map vn) (fun l σ H' => ∃ (bh : Addr) (bs : List Nat) (v8 : Option V), σ = [some v, some (.ref la), some (vn i), none, some (.ref sp), none, some x, some (.ref bh), v8, none] ∧ Same H5 H' ∧ H bh = none ∧ H' bh = some (.lst (bs.map vn)) ∧ bs.Nodup ∧ (∀ j ∈ bs, j ≤ n) ∧ ∀ j, j ∈ bs ↔ j ∈ b0 ∨ ∃ y ∈ js.take l, Fit Ln pi y j) ?_ ?_ ?_ ?_⟩
        · exact ⟨bh2, b0, _, rfl, Same.refl _, nbh5, ebh5, ndb0, hb0n, fun j => by rw [List.take_zero]; exact ⟨.inl, fun h => h.elim id fun ⟨y, hy, _⟩ => (by cases hy)⟩⟩
        · rintro l σ H6 hl ⟨bh, bs, v8, rfl, s6, _⟩
          exact .inl (.inl (s6 _ _ esp5))
        · rintro l y σ H6 hl ⟨bh, bs, v8, rfl, s6, nbh6, ebh6, ndb6, hbn6, hbs6⟩
          rw [List.getElem?_map] at hl
          cases ey : js[l]? with
          | none => rw [ey] at hl; cases hl
          | some y' =>
            rw [ey] at hl
            cases hl
            have hy' := hjn y' (List.mem_of_getElem? ey)
            have s36 := Same.trans s35 s6
            have s06 := Same.trans s03 s36
            refine ⟨.ref bh, rfl, x, rfl, .ref la, rfl, vn y', rfl, x, .ref la, y', pi, mss, steps, rfl, by omega, dpi.mono (Same.tps s36), LD.keep s06, by omega, fun ea es H7 s7 nea eea nde mem => ?_⟩
            have hesn : ∀ j ∈ es, j ≤ n := fun j hj => by
              have f := (mem j).mp hj
              rw [← eL] at f
              exact fit_le hLn _ _ _ f hy'
            have hes : es.length ≤ 100 := by
              have := jl es nde hesn
              omega
            refine ⟨ea, rfl, ⟨_, .inl (.inl eea)⟩, fun D nD => comp_new (es := es) (js := bs) (ba := bh) (fun _ => rfl) (fun _ => rfl) (fun _ => rfl) nD eea (s7 _ _ ebh6) hes fun H8 s8 eD => ?_⟩
            have hfl : (es.filter fun x => !decide (x ∈ bs)).length ≤ 100 := Nat.le_trans (List.length_filter_le _ _) hes
            have hbl := jl bs ndb6 hbn6
            refine ⟨bh, D, _, _, rfl, rfl, s8 _ _ (s7 _ _ ebh6), eD, by rw [List.length_map, List.length_map]; omega, fun b9 H9 s9 nb9 eb9 => ?_⟩
            rw [← List.map_append] at eb9
            have eb9 : H9 b9 = some (.lst ((addN bs es).map vn)) := eb9
            have s69 := Same.trans (Same.trans s7 s8) s9
            refine ⟨b9, addN bs es, _, rfl, Same.trans s6 s69, Same.free (Same.trans s06 (Same.trans s7 s8)) nb9, eb9, nodup_addN ndb6 nde, fun j hj => ?_, fun j => ?_⟩
            · rcases mem_addN.mp hj with h | h
              · exact hbn6 j h
              · exact hesn j h
            · rw [mem_addN, hbs6, mem, ← eL, take_snoc ey, or_assoc]
              refine or_congr Iff.rfl ⟨fun h => ?_, fun h => ?_⟩
              · rcases h with ⟨z, hz1, hz2⟩ | h
                · exact ⟨z, List.mem_append_left _ hz1, hz2⟩
                · exact ⟨y', by simp, h⟩
              · obtain ⟨z, hz1, hz2⟩ := h
                rcases List.mem_append.mp hz1 with h | h
                · exact .inl ⟨z, h, hz2⟩
                · rw [List.mem_singleton.mp h] at hz2
                  exact .inr hz2
        · rintro σ H6 ⟨bh6, bs6, v8, rfl, s6, nbh6, ebh6, ndb6, hbn6, hbs6⟩
          rw [List.length_map, List.take_length] at hbs6
          have s36 := Same.trans s35 s6
          refine ⟨v, rfl, rfl, _, (hp.mono (Same.tps s03)).mono (Same.tps s36), _, rfl, rfl, _, rfl, ?_⟩
          refine iteT ?_
          refine ⟨.ref bh6, rfl, bh6, bh6, bs6, bs6, _, _, rfl, s36, nbh6, nbh6, ebh6, ndb6, hbn6, fun j => ?_⟩
          rw [hbs6, eb0, take_snoc epi, fitSeq_snoc]
          refine ⟨fun h => ?_, fun h => ?_⟩
          · rcases h with h | ⟨y, hy, f⟩
            · cases h
            · exact ⟨y, (hjs y).mp hy, f⟩
          · obtain ⟨y, hy, f⟩ := h
            exact .inr ⟨y, (hjs y).mpr hy, f⟩
      · rintro σ H4 ⟨sp, bh, js, bs, v6, v8, rfl, s4, nsp, nbh, esp, ndj, hjn, hjs⟩
        rw [hul, List.take_length] at hjs
        refine ⟨v, rfl, rfl, _, (hp.mono (Same.tps s03)).mono (Same.tps s4), _, rfl, rfl, _, rfl, ?_⟩
        refine iteT ?_
        exact ⟨.ref sp, rfl, q sp js H4 (Same.trans s03 s4) nsp esp ndj fun j => by rw [Fit]; exact hjs j⟩
    | eit ps =>
      refine iteF ?_
      refine ⟨v, rfl, rfl, _, hp, by show 2 ≤ 1000; decide, fun t H1 s1 nt et => ⟨_, t, rfl, rfl, .inl (.inl et), _, rfl, ?_⟩⟩
      refine iteF ?_
      refine ⟨v, rfl, rfl, _, hp.mono (Same.tps s1), _, rfl, rfl, _, rfl, ?_⟩
      refine iteF ?_
      refine ⟨vn i, rfl, by show 1 ≤ 1000; decide, fun sp H2 s2 nsp esp => ?_⟩
      have esp : H2 sp = some (.lst ([i].map vn)) := esp
      have s02 := Same.trans s1 s2
      have nsp0 : H sp = none := Same.free s1 nsp
      refine ⟨v, rfl, rfl, _, hp.mono (Same.tps s02), _, rfl, rfl, _, rfl, ?_⟩
      refine iteF ?_
      refine ⟨Nat.zero_le _, fun bh H3 s3 nbh ebh => ?_⟩
      have s03 := Same.trans s02 s3
      refine ⟨v, rfl, 1, _, _, rfl, hp.mono (Same.tps s03), rfl, fun u du => ?_⟩
      obtain ⟨tv, us, rfl, etv, dus⟩ := du.tup_inv
      rw [pkeys_map] at dus
      have hul : us.length = ps.length := by rw [dus.length, List.length_map]
      simp only [sz] at hz
      refine ⟨tv, rfl, ⟨us, .inl (.inl etv)⟩, for_tup (K := K) (a := tv) (xs := us) (fun idx σ H' => ∃ (sp bh : Addr) (js bs : List Nat) (v6 v8 : Option V), σ = [some v, some (.ref la), some (vn i), none, some (.ref sp), none, v6, some (.ref bh), v8, none] ∧ Same H3 H' ∧ H sp = none ∧ H bh = none ∧ js = [i] ∧ H' sp = some (.lst (js.map vn)) ∧ H' bh = some (.lst (bs.map vn)) ∧ bs.Nodup ∧ (∀ j ∈ bs, j ≤ n) ∧ (∀ j, j ∈ bs ↔ FitAny Ln (ps.take idx) i j)) ?_ ?_ ?_ ?_⟩
      · exact ⟨sp, bh, [i], [], none, none, rfl, Same.refl _, nsp0, Same.free s02 nbh, rfl, s3 _ _ esp, ebh, by simp, fun j hj => (by cases hj), fun j => by rw [List.take_zero, FitAny]; exact ⟨fun e => (by cases e), fun e => e.elim⟩⟩
      · rintro idx σ H4 hidx ⟨sp, bh, js, bs, v6, v8, rfl, s4, _⟩
        exact .inl (.inl (s4 _ _ etv))
      · rintro idx x σ H4 hidx ⟨sp, bh, js, bs, v6, v8, rfl, s4, nsp, nbh, ejs, esp, ebh, ndb, hbn, hbs⟩
        have ndj : js.Nodup := by rw [ejs]; simp
        have hjn : ∀ j ∈ js, j ≤ n := fun j hj => by rw [ejs] at hj; rw [List.mem_singleton.mp hj]; exact hi
        obtain ⟨pi, epi, dpi⟩ := dus.at_ hidx
        have pim := List.mem_of_getElem? epi
        have hzi := szs_mem pim
        refine ⟨v, rfl, rfl, _, (hp.mono (Same.tps s03)).mono (Same.tps s4), _, rfl, rfl, _, rfl, ?_⟩
        refine iteF ?_
        have s35 := s4
        have esp5 := esp
        have nbh5 := nbh
        obtain ⟨b0, eb0⟩ : ∃ b0 : List Nat, b0 = bs := ⟨_, rfl⟩
        have ebh5 : H4 bh = some (.lst (b0.map vn)) := by rw [eb0]; exact ebh
        have ndb0 : b0.Nodup := by rw [eb0]; exact ndb
        have hb0n : ∀ j ∈ b0, j ≤ n := fun j hj => by rw [eb0] at hj; exact hbn j hj
        refine ⟨.ref sp, rfl, sp, rfl, ⟨_, .inl (.inl esp5)⟩, for_list (K := K) (a := sp) (xs := js.map vn) (fun l σ H' => ∃ (bh : Addr) (bs : List Nat) (v8 : Option V), σ = [some v, some (.ref la), some (vn i), none, some (.ref sp), none, some x, some (.ref bh), v8, none] ∧ Same H4 H' ∧ H bh = none ∧ H' bh = some (.lst (bs.map vn)) ∧ bs.Nodup ∧ (∀ j ∈ bs, j ≤ n) ∧ ∀ j, j ∈ bs ↔ j ∈ b0 ∨ ∃ y ∈ js.take l, Fit Ln pi y j) ?_ ?_ ?_ ?_⟩
        · exact ⟨bh, b0, _, rfl, Same.refl _, nbh5, ebh5, ndb0, hb0n, fun j => by rw [List.take_zero]; exact ⟨.inl, fun h => h.elim id fun ⟨y, hy, _⟩ => (by cases hy)⟩⟩
        · rintro l σ H6 hl ⟨bh, bs, v8, rfl, s6, _⟩
          exact .inl (.inl (s6 _ _ esp5))
        · rintro l y σ H6 hl ⟨bh, bs, v8, rfl, s6, nbh6, ebh6, ndb6, hbn6, hbs6⟩
          rw [List.getElem?_map] at hl
          cases ey : js[l]? with
          | none => rw [ey] at hl; cases hl
          | some y' =>
            rw [ey] at hl
            cases hl
            have hy' := hjn y' (List.mem_of_getElem? ey)
            have s36 := Same.trans s35 s6
            have s06 := Same.trans s03 s36
            refine ⟨.ref bh, rfl, x, rfl, .ref la, rfl, vn y', rfl, x, .ref la, y', pi, mss, steps, rfl, by omega, dpi.mono (Same.tps s36), LD.keep s06, by omega, fun ea es H7 s7 nea eea nde mem => ?_⟩
            have hesn : ∀ j ∈ es, j ≤ n := fun j hj => by
              have f := (mem j).mp hj
              rw [← eL] at f
              exact fit_le hLn _ _ _ f hy'
            have hes : es.length ≤ 100 := by
              have := jl es nde hesn
              omega
            refine ⟨ea, rfl, ⟨_, .inl (.inl eea)⟩, fun D nD => comp_new (es := es) (js := bs) (ba := bh) (fun _ => rfl) (fun _ => rfl) (fun _ => rfl) nD eea (s7 _ _ ebh6) hes fun H8 s8 eD => ?_⟩
            have hfl : (es.filter fun x => !decide (x ∈ bs)).length ≤ 100 := Nat.le_trans (List.length_filter_le _ _) hes
            have hbl := jl bs ndb6 hbn6
            refine ⟨bh, D, _, _, rfl, rfl, s8 _ _ (s7 _ _ ebh6), eD, by rw [List.length_map, List.length_map]; omega, fun b9 H9 s9 nb9 eb9 => ?_⟩
            rw [← List.map_append] at eb9
            have eb9 : H9 b9 = some (.lst ((addN bs es).map vn)) := eb9
            have s69 := Same.trans (Same.trans s7 s8) s9
            refine ⟨b9, addN bs es, _, rfl, Same.trans s6 s69, Same.free (Same.trans s06 (Same.trans s7 s8)) nb9, eb9, nodup_addN ndb6 nde, fun j hj => ?_, fun j => ?_⟩
            · rcases mem_addN.mp hj with h | h
              · exact hbn6 j h
              · exact hesn j h
            · rw [mem_addN, hbs6, mem, ← eL, take_snoc ey, or_assoc]
              refine or_congr Iff.rfl ⟨fun h => ?_, fun h => ?_⟩
              · rcases h with ⟨z, hz1, hz2⟩ | h
                · exact ⟨z, List.mem_append_left _ hz1, hz2⟩
                · exact ⟨y', by simp, h⟩
              · obtain ⟨z, hz1, hz2⟩ := h
                rcases List.mem_append.mp hz1 with h | h
                · exact .inl ⟨z, h, hz2⟩
                · rw [List.mem_singleton.mp h] at hz2
                  exact .inr hz2
        · rintro σ H6 ⟨bh6, bs6, v8, rfl, s6, nbh6, ebh6, ndb6, hbn6, hbs6⟩
          rw [List.length_map, List.take_length] at hbs6
          have s36 := Same.trans s35 s6
          refine ⟨v, rfl, rfl, _, (hp.mono (Same.tps s03)).mono (Same.tps s36), _, rfl, rfl, _, rfl, ?_⟩
          refine iteF ?_
          refine ⟨sp, bh6, js, bs6, _, _, rfl, s36, nsp, nbh6, ejs, s6 _ _ esp5, ebh6, ndb6, hbn6, fun j => ?_⟩
          rw [hbs6, eb0, take_snoc epi, fitAny_snoc, hbs, ejs]
          refine or_congr Iff.rfl ⟨fun h => ?_, fun h => ⟨i, by simp, h⟩⟩
          obtain ⟨y, hy, f⟩ := h
          rw [List.mem_singleton.mp hy] at f
          exact f
      · rintro σ H4 ⟨sp, bh, js, bs, v6, v8, rfl, s4, nsp, nbh, ejs, esp, ebh, ndb, hbn, hbs⟩
        rw [hul, List.take_length] at hbs
        refine ⟨v, rfl, rfl, _, (hp.mono (Same.tps s03)).mono (Same.tps s4), _, rfl, rfl, _, rfl, ?_⟩
        refine iteF ?_
        exact ⟨.ref bh, rfl, q bh bs H4 (Same.trans s03 s4) nbh ebh ndb fun j => by rw [Fit]; exact hbs j⟩
theorem ends_all (W : Wd K mg) : ∀ N, Cl P w K mg base "_law_ends" ["_law_pattern_here", "_law_line", "_law_at"] (N + 1) (sqEnds N)
  | 0 => ends0 W
  | N + 1 => ok_L_ends W (ends_all W N)
def sqRight : Sq := fun vs H Q => ∃ (v lv : V) (p : Pat) (mss : List (List Str)) (steps : List (Str × Str)), vs = [v, lv] ∧ sz p ≤ 8 ∧ Dn H v (pkey p) ∧ LineD H lv mss steps ∧
  ∀ (b : Bool) (H' : Hp), Same H H' → (b = true ↔ Fit (lnOf mss steps) p 0 steps.length) → Q (.bl b) H'
theorem ok_L_right (W : Wd K mg) : Cl P w K mg base "_law_right" ["_law_pattern_here", "_law_line"] 10 sqRight := by
  refine mk_cl W 31 21 (d := d_L_right) rfl rfl rfl rfl sc_L_right (fun _ _ _ _ _ _ us hl => match us, hl with | [_, _], _ => rfl) (fun vs H Q h => ?_) (fun f cdv A outer s H vs Q E hr h => ?_)
  · obtain ⟨v, lv, p, mss, steps, rfl, _⟩ := h
    rfl
  · obtain ⟨v, lv, p, mss, steps, rfl, hz, hp, LD, q⟩ := h
    obtain ⟨la, ml, sl, mvs, svs, rfl, ela, eml, dml, esl, dsl⟩ := LD.ex
    have c_L_ends := ends_all (P := P) (w := w) (base := base) W 8
    refine ⟨_, (pss_one (ps_ret (pe_cmpR op_inN (pe_callB call_len (by rfl) (W.free 32) PySem.boot_len (pa_cons (pe_ix ix_tup (pv 1) pe_int (fun _ _ => rfl)) pa_nil)) (pe_fn c_L_ends (hr.mono (by omega)) (by rfl) (pa_cons (pv 0) (pa_cons (pv 1) (pa_cons pe_int pa_nil)))) (by rfl)))), ?_⟩
    have hsl : svs.length = steps.length := by rw [dsl.length, List.length_map]
    refine ⟨.ref la, rfl, la, _, 1, .ref sl, rfl, rfl, .inl (.inl ela), atI_nat (j := 1) rfl, .ref sl, steps.length, rfl, .inl ⟨svs, .inl (.inl esl), by rw [hsl]⟩, v, rfl, .ref la, rfl, v, .ref la, 0, p, mss, steps, rfl, hz, hp, LD, Nat.zero_le _, fun a js H1 s1 na ea nd mem => ?_⟩
    refine ⟨steps.length, a, js, rfl, rfl, .inl (.inl (.inl ea)), q _ H1 s1 ?_⟩
    rw [decide_eq_true_eq]
    exact mem _
end
end Pk
namespace Pk
set_option autoImplicit false
set_option maxRecDepth 100000
set_option maxHeartbeats 4000000
open PySem PySem.Spec PyProof.Rows L2
theorem sc_L_marks_of : FnScope ["_law_pattern_here", "_law_found", "_law_one"] ["_law_pattern_here"] d_L_marks_of.scope := ⟨rfl, rfl, rfl, by decide +kernel, rfl, by decide +kernel, by decide +kernel⟩
theorem sc_L_words_of : FnScope ["_law_pattern_here", "_law_found", "_law_one"] ["_law_pattern_here"] d_L_words_of.scope := ⟨rfl, rfl, rfl, by decide +kernel, rfl, by decide +kernel, by decide +kernel⟩
section
variable {P : Program} {w : World} {K : PySem.W.Frag} {mg : Str → Option Value} {base : Heap}
def sqOf (f : Pat → List Str) (N : Nat) : Sq := fun vs H Q => ∃ (v : V) (p : Pat), vs = [v] ∧ sz p ≤ N ∧ Dn H v (pkey p) ∧
  ∀ (a : Addr) (ts : List Str) (H' : Hp), Same H H' → H a = none → H' a = some (.lst (ts.map V.str)) → (∀ x, x ∈ ts ↔ x ∈ f p) → ts.length ≤ sz p → Q (.ref a) H'
theorem marks0 (W : Wd K mg) : Cl P w K mg base "_law_marks_of" ["_law_pattern_here"] 1 (sqOf mks 0) := by
  refine mk_cl W 32 22 (d := d_L_marks_of) rfl rfl rfl rfl sc_L_marks_of (fun _ _ _ _ _ _ us hl => match us, hl with | [_], _ => rfl) (fun vs H Q h => ?_) (fun f cdv A outer s H vs Q E hr h => ?_)
  · obtain ⟨v, p, rfl, _⟩ := h
    rfl
  · obtain ⟨v, p, rfl, hz, _⟩ := h
    have := sz_pos p
    omega
theorem words0 (W : Wd K mg) : Cl P w K mg base "_law_words_of" ["_law_pattern_here"] 1 (sqOf wds 0) := by
  refine mk_cl W 33 23 (d := d_L_words_of) rfl rfl rfl rfl sc_L_words_of (fun _ _ _ _ _ _ us hl => match us, hl with | [_], _ => rfl) (fun vs H Q h => ?_) (fun f cdv A outer s H vs Q E hr h => ?_)
  · obtain ⟨v, p, rfl, _⟩ := h
    rfl
  · obtain ⟨v, p, rfl, hz, _⟩ := h
    have := sz_pos p
    omega
theorem ok_L_marks_of {N : Nat} (W : Wd K mg) (hN : N ≤ 100) (c_L_marks_of : Cl P w K mg base "_law_marks_of" ["_law_pattern_here"] (N + 1) (sqOf mks N)) : Cl P w K mg base "_law_marks_of" ["_law_pattern_here"] (N + 2) (sqOf mks (N + 1)) := by
  refine mk_cl W 32 22 (d := d_L_marks_of) rfl rfl rfl rfl sc_L_marks_of (fun _ _ _ _ _ _ us hl => match us, hl with | [_], _ => rfl) (fun vs H Q h => ?_) (fun f cdv A outer s H vs Q E hr h => ?_)
  · obtain ⟨v, p, rfl, _⟩ := h
    rfl
  · obtain ⟨v, p, rfl, hz, hp, q⟩ := h
    have hu := hr.units
    refine ⟨_, (pss_cons (ps_if (pt_cmpR (op_inTag [.att, .off]) (pe_ix ix_tag (pv 0) pe_int (fun _ _ => rfl)) (pe_tupN (pa_cons pe_str (pa_cons pe_str pa_nil))) (by rfl))
        (pss_one (ps_ret (pe_lstN (pa_cons (pe_ix ix_key (pv 0) pe_int (fun _ _ => rfl)) pa_nil))))
        pss_nil)
      (pss_cons (ps_set (i := 1) sc_L_marks_of.nd rfl (Or.inl rfl) (pe_lstN pa_nil))
      (pss_cons (ps_if (pt_cmpR (op_eqTag .many) (pe_ix ix_tag (pv 0) pe_int (fun _ _ => rfl)) pe_str (nomark _))
        (pss_one (ps_ret (pe_fn c_L_marks_of (hr.mono (by omega)) (by rfl) (pa_cons (pe_ix ix_key (pv 0) pe_int (fun _ _ => rfl)) pa_nil))))
        pss_nil)
      (pss_cons (ps_if (pt_cmpR (op_inTag [.thn, .eit]) (pe_ix ix_tag (pv 0) pe_int (fun _ _ => rfl)) (pe_tupN (pa_cons pe_str (pa_cons pe_str pa_nil))) (by rfl))
        (pss_one (ps_for PassesOwn.never rfl (pi_tup (pe_ix ix_key (pv 0) pe_int (fun _ _ => rfl))) (pg_name (i := 2) sc_L_marks_of.nd rfl (Or.inl rfl))
          (pss_one (ps_set (i := 1) sc_L_marks_of.nd rfl (Or.inl rfl) (pe_op n_cat (pv 1) (pe_fn c_L_marks_of (hr.mono (by omega)) (by rfl) (pa_cons (pv 2) pa_nil)))))))
        pss_nil)
      (pss_one (ps_ret (pe_callB (n_sortS hu rfl) (by rfl) (W.free 33) (by decide +kernel) (pa_cons (pe_callTy (n_setS rfl) (by rfl) (W.free 34) (by decide +kernel) (pa_cons (pv 1) pa_nil)) pa_nil)))))))), ?_⟩
    refine ⟨v, rfl, rfl, p, hp, by show 2 ≤ 1000; decide, fun t H1 s1 nt et => ⟨p, t, rfl, rfl, .inl (.inl et), _, rfl, ?_⟩⟩
    have hp1 := hp.mono (Same.tps s1)
    by_cases hm : isTag .att p = true ∨ isTag .off p = true
    · have e0 : ([Tg.att, Tg.off].any fun q => isTag q p) = true := by
        rw [List.any_eq_true]
        rcases hm with h | h
        · exact ⟨.att, by simp, h⟩
        · exact ⟨.off, by simp, h⟩
      rw [e0]
      refine iteT ?_
      obtain ⟨m, ks, ek, emk, esz⟩ : ∃ (m : Str) (tg : Str), pkey p = .tup [.text tg, .text m] ∧ mks p = [m] ∧ sz p = 1 := by
        cases p with
        | att m => exact ⟨m, _, rfl, rfl, rfl⟩
        | off m => exact ⟨m, _, rfl, rfl, rfl⟩
        | _ => rcases hm with h | h <;> cases h
      rw [ek] at hp1
      refine ⟨v, rfl, 1, _, _, rfl, hp1, rfl, fun u du => ⟨by show 1 ≤ 1000; decide, fun a H2 s2 na ea => ?_⟩⟩
      rw [du.text_inv] at ea
      exact q a [m] H2 (Same.trans s1 s2) (Same.free s1 na) ea (fun x => by rw [emk]) (by rw [esz]; exact Nat.le_refl _)
    · have e0 : ([Tg.att, Tg.off].any fun q => isTag q p) = false := by
        cases h : [Tg.att, Tg.off].any fun q => isTag q p with
        | false => rfl
        | true =>
          obtain ⟨x, hx, hx2⟩ := List.any_eq_true.mp h
          simp only [List.mem_cons, List.not_mem_nil, or_false] at hx
          rcases hx with rfl | rfl
          · exact absurd (.inl hx2) hm
          · exact absurd (.inr hx2) hm
      rw [e0]
      refine iteF ?_
      refine ⟨Nat.zero_le _, fun fl H2 s2 nfl efl => ?_⟩
      have s02 := Same.trans s1 s2
      have hp2 := hp.mono (Same.tps s02)
      have nfl0 := Same.free s1 nfl
      refine ⟨v, rfl, rfl, p, hp2, p, rfl, rfl, _, rfl, ?_⟩
      cases p with
      | many p1 =>
        refine iteT ?_
        simp only [sz] at hz
        refine ⟨v, rfl, 1, _, _, rfl, hp2, rfl, fun u du => ⟨u, p1, rfl, by omega, du, fun a ts H3 s3 na ea mem hl => ?_⟩⟩
        exact q a ts H3 (Same.trans s02 s3) (Same.free s02 na) ea mem (by simp only [sz]; omega)
      | thn ps =>
        refine iteF ?_
        refine ⟨v, rfl, rfl, _, hp2, by show 2 ≤ 1000; decide, fun t3 H3 s3 nt3 et3 => ⟨_, t3, rfl, rfl, .inl (.inl et3), _, rfl, ?_⟩⟩
        refine iteT ?_
        have s03 := Same.trans s02 s3
        refine ⟨v, rfl, 1, _, _, rfl, hp.mono (Same.tps s03), rfl, fun u du => ?_⟩
        obtain ⟨tv, us, rfl, etv, dus⟩ := du.tup_inv
        rw [pkeys_map] at dus
        have hul : us.length = ps.length := by rw [dus.length, List.length_map]
        simp only [sz] at hz
        refine ⟨tv, rfl, ⟨us, .inl (.inl etv)⟩, for_tup (K := K) (a := tv) (xs := us) (fun i σ H' => ∃ (fl : Addr) (ts : List Str) (v2 : Option V), σ = [some v, some (.ref fl), v2] ∧ Same H3 H' ∧ H fl = none ∧ H' fl = some (.lst (ts.map V.str)) ∧ (∀ x, x ∈ ts ↔ x ∈ mkss (ps.take i)) ∧ ts.length ≤ szs (ps.take i)) ?_ ?_ ?_ ?_⟩
        · exact ⟨fl, [], none, rfl, Same.refl _, nfl0, s3 _ _ efl, fun x => by simp [mkss], by simp [szs]⟩
        · rintro i σ H4 hi ⟨fl, ts, v2, rfl, s4, _⟩
          exact .inl (.inl (s4 _ _ etv))
        · rintro i x σ H4 hi ⟨fl, ts, v2, rfl, s4, nfl, efl, mem, hl⟩
          obtain ⟨pi, epi, dpi⟩ := dus.at_ hi
          have hzi := szs_mem (List.mem_of_getElem? epi)
          have htk : szs (ps.take i) ≤ szs ps := by
            have := szs_append (ps.take i) (ps.drop i)
            rw [List.take_append_drop] at this
            omega
          refine ⟨.ref fl, rfl, x, rfl, x, pi, rfl, by omega, dpi.mono (Same.tps s4), fun a2 t2 H5 s5 na2 ea2 mem2 hl2 => ?_⟩
          refine ⟨fl, a2, _, _, rfl, rfl, s5 _ _ efl, ea2, by rw [List.length_map, List.length_map]; omega, fun b H6 s6 nb eb => ?_⟩
          rw [← List.map_append] at eb
          have s46 := Same.trans s5 s6
          refine ⟨b, ts ++ t2, _, rfl, Same.trans s4 s46, Same.free (Same.trans s03 (Same.trans s4 s5)) nb, eb, fun y => ?_, ?_⟩
          · rw [take_snoc epi, List.mem_append, mem, mem2, mem_mkss, mem_mkss]
            simp [or_and_right, exists_or]
          · rw [take_snoc epi, szs_append, List.length_append]
            simp only [szs]
            omega
        · rintro σ H4 ⟨fl, ts, v2, rfl, s4, nfl, efl, mem, hl⟩
          rw [hul, List.take_length] at mem hl
          refine ⟨_, rfl, fl, ts, rfl, .inl (.inl (.inl efl)), by omega, fun S H5 s5 nS eS => ⟨S, _, rfl, eS, fun a H6 s6 na ea => ?_⟩⟩
          have s46 := Same.trans s5 s6
          refine q a _ H6 (Same.trans s03 (Same.trans s4 s46)) (Same.free (Same.trans s03 (Same.trans s4 s5)) na) ea (fun x => by rw [mem_sset, mem, mks]) ?_
          have := sset_len ts
          simp only [sz]
          omega
      | eit ps =>
        refine iteF ?_
        refine ⟨v, rfl, rfl, _, hp2, by show 2 ≤ 1000; decide, fun t3 H3 s3 nt3 et3 => ⟨_, t3, rfl, rfl, .inl (.inl et3), _, rfl, ?_⟩⟩
        refine iteT ?_
        have s03 := Same.trans s02 s3
        refine ⟨v, rfl, 1, _, _, rfl, hp.mono (Same.tps s03), rfl, fun u du => ?_⟩
        obtain ⟨tv, us, rfl, etv, dus⟩ := du.tup_inv
        rw [pkeys_map] at dus
        have hul : us.length = ps.length := by rw [dus.length, List.length_map]
        simp only [sz] at hz
        refine ⟨tv, rfl, ⟨us, .inl (.inl etv)⟩, for_tup (K := K) (a := tv) (xs := us) (fun i σ H' => ∃ (fl : Addr) (ts : List Str) (v2 : Option V), σ = [some v, some (.ref fl), v2] ∧ Same H3 H' ∧ H fl = none ∧ H' fl = some (.lst (ts.map V.str)) ∧ (∀ x, x ∈ ts ↔ x ∈ mkss (ps.take i)) ∧ ts.length ≤ szs (ps.take i)) ?_ ?_ ?_ ?_⟩
        · exact ⟨fl, [], none, rfl, Same.refl _, nfl0, s3 _ _ efl, fun x => by simp [mkss], by simp [szs]⟩
        · rintro i σ H4 hi ⟨fl, ts, v2, rfl, s4, _⟩
          exact .inl (.inl (s4 _ _ etv))
        · rintro i x σ H4 hi ⟨fl, ts, v2, rfl, s4, nfl, efl, mem, hl⟩
          obtain ⟨pi, epi, dpi⟩ := dus.at_ hi
          have hzi := szs_mem (List.mem_of_getElem? epi)
          have htk : szs (ps.take i) ≤ szs ps := by
            have := szs_append (ps.take i) (ps.drop i)
            rw [List.take_append_drop] at this
            omega
          refine ⟨.ref fl, rfl, x, rfl, x, pi, rfl, by omega, dpi.mono (Same.tps s4), fun a2 t2 H5 s5 na2 ea2 mem2 hl2 => ?_⟩
          refine ⟨fl, a2, _, _, rfl, rfl, s5 _ _ efl, ea2, by rw [List.length_map, List.length_map]; omega, fun b H6 s6 nb eb => ?_⟩
          rw [← List.map_append] at eb
          have s46 := Same.trans s5 s6
          refine ⟨b, ts ++ t2, _, rfl, Same.trans s4 s46, Same.free (Same.trans s03 (Same.trans s4 s5)) nb, eb, fun y => ?_, ?_⟩
          · rw [take_snoc epi, List.mem_append, mem, mem2, mem_mkss, mem_mkss]
            simp [or_and_right, exists_or]
          · rw [take_snoc epi, szs_append, List.length_append]
            simp only [szs]
            omega
        · rintro σ H4 ⟨fl, ts, v2, rfl, s4, nfl, efl, mem, hl⟩
          rw [hul, List.take_length] at mem hl
          refine ⟨_, rfl, fl, ts, rfl, .inl (.inl (.inl efl)), by omega, fun S H5 s5 nS eS => ⟨S, _, rfl, eS, fun a H6 s6 na ea => ?_⟩⟩
          have s46 := Same.trans s5 s6
          refine q a _ H6 (Same.trans s03 (Same.trans s4 s46)) (Same.free (Same.trans s03 (Same.trans s4 s5)) na) ea (fun x => by rw [mem_sset, mem, mks]) ?_
          have := sset_len ts
          simp only [sz]
          omega
      | stay =>
        refine iteF ?_
        refine ⟨v, rfl, rfl, _, hp2, by show 2 ≤ 1000; decide, fun t3 H3 s3 nt3 et3 => ⟨_, t3, rfl, rfl, .inl (.inl et3), _, rfl, ?_⟩⟩
        refine iteF ?_
        refine ⟨_, rfl, fl, [], rfl, .inl (.inl (.inl (s3 _ _ efl))), Nat.zero_le _, fun S H4 s4 nS eS => ⟨S, _, rfl, eS, fun a H5 s5 na ea => ?_⟩⟩
        have s35 := Same.trans (Same.trans s3 s4) s5
        exact q a _ H5 (Same.trans s02 s35) (Same.free (Same.trans s02 (Same.trans s3 s4)) na) ea (fun x => by simp [mem_sset, mks]) (Nat.le_trans (sset_len _) (Nat.zero_le _))
      | step sd wd =>
        refine iteF ?_
        refine ⟨v, rfl, rfl, _, hp2, by show 2 ≤ 1000; decide, fun t3 H3 s3 nt3 et3 => ⟨_, t3, rfl, rfl, .inl (.inl et3), _, rfl, ?_⟩⟩
        refine iteF ?_
        refine ⟨_, rfl, fl, [], rfl, .inl (.inl (.inl (s3 _ _ efl))), Nat.zero_le _, fun S H4 s4 nS eS => ⟨S, _, rfl, eS, fun a H5 s5 na ea => ?_⟩⟩
        have s35 := Same.trans (Same.trans s3 s4) s5
        exact q a _ H5 (Same.trans s02 s35) (Same.free (Same.trans s02 (Same.trans s3 s4)) na) ea (fun x => by simp [mem_sset, mks]) (Nat.le_trans (sset_len _) (Nat.zero_le _))
      | att m => exact absurd (.inl rfl) hm
      | off m => exact absurd (.inr rfl) hm
theorem marks_all (W : Wd K mg) : ∀ N, N ≤ 100 → Cl P w K mg base "_law_marks_of" ["_law_pattern_here"] (N + 1) (sqOf mks N)
  | 0, _ => marks0 W
  | N + 1, h => ok_L_marks_of W (by omega) (marks_all W N (by omega))
theorem ok_L_words_of {N : Nat} (W : Wd K mg) (hN : N ≤ 100) (c_L_words_of : Cl P w K mg base "_law_words_of" ["_law_pattern_here"] (N + 1) (sqOf wds N)) : Cl P w K mg base "_law_words_of" ["_law_pattern_here"] (N + 2) (sqOf wds (N + 1)) := by
  refine mk_cl W 33 23 (d := d_L_words_of) rfl rfl rfl rfl sc_L_words_of (fun _ _ _ _ _ _ us hl => match us, hl with | [_], _ => rfl) (fun vs H Q h => ?_) (fun f cdv A outer s H vs Q E hr h => ?_)
  · obtain ⟨v, p, rfl, _⟩ := h
    rfl
  · obtain ⟨v, p, rfl, hz, hp, q⟩ := h
    have hu := hr.units
    refine ⟨_, (pss_cons (ps_if (pt_cmpR (op_eqTag .step) (pe_ix ix_tag (pv 0) pe_int (fun _ _ => rfl)) pe_str (nomark _))
        (pss_one (ps_ret (pe_slice n_cut (pe_lstN (pa_cons (pe_ix ix_key (pv 0) pe_int (fun _ _ => rfl)) pa_nil)) po_none (po_some (pe_callTy call_int1 (by rfl) (W.free 42) (by decide +kernel) (pa_cons (pe_cmpR op_neT (pe_ix ix_key (pv 0) pe_int (fun _ _ => rfl)) pe_str (nomark _)) pa_nil))))))
        pss_nil)
      (pss_cons (ps_set (i := 1) sc_L_words_of.nd rfl (Or.inl rfl) (pe_lstN pa_nil))
      (pss_cons (ps_if (pt_cmpR (op_eqTag .many) (pe_ix ix_tag (pv 0) pe_int (fun _ _ => rfl)) pe_str (nomark _))
        (pss_one (ps_ret (pe_fn c_L_words_of (hr.mono (by omega)) (by rfl) (pa_cons (pe_ix ix_key (pv 0) pe_int (fun _ _ => rfl)) pa_nil))))
        pss_nil)
      (pss_cons (ps_if (pt_cmpR (op_inTag [.thn, .eit]) (pe_ix ix_tag (pv 0) pe_int (fun _ _ => rfl)) (pe_tupN (pa_cons pe_str (pa_cons pe_str pa_nil))) (by rfl))
        (pss_one (ps_for PassesOwn.never rfl (pi_tup (pe_ix ix_key (pv 0) pe_int (fun _ _ => rfl))) (pg_name (i := 2) sc_L_words_of.nd rfl (Or.inl rfl))
          (pss_one (ps_set (i := 1) sc_L_words_of.nd rfl (Or.inl rfl) (pe_op n_cat (pv 1) (pe_fn c_L_words_of (hr.mono (by omega)) (by rfl) (pa_cons (pv 2) pa_nil)))))))
        pss_nil)
      (pss_one (ps_ret (pe_callB (n_sortS hu rfl) (by rfl) (W.free 33) (by decide +kernel) (pa_cons (pe_callTy (n_setS rfl) (by rfl) (W.free 34) (by decide +kernel) (pa_cons (pv 1) pa_nil)) pa_nil)))))))), ?_⟩
    refine ⟨v, rfl, rfl, p, hp, p, rfl, rfl, _, rfl, ?_⟩
    by_cases hm : isTag .step p = true
    · rw [hm]
      refine iteT ?_
      obtain ⟨sd, wd, rfl⟩ : ∃ sd wd, p = .step sd wd := by
        cases p with
        | step sd wd => exact ⟨sd, wd, rfl⟩
        | _ => cases hm
      refine ⟨v, rfl, 2, _, _, rfl, hp, rfl, fun u du => ⟨by show 1 ≤ 1000; decide, fun a H2 s2 na ea => ?_⟩⟩
      rw [du.text_inv] at ea
      refine ⟨v, rfl, 2, _, _, rfl, hp.mono (Same.tps s2), rfl, fun u2 du2 => ⟨wd, star, du2.text_inv, rfl, .inr ⟨_, rfl, _, rfl, a, _, rfl, .inl (.inl ea), fun b H3 s3 nb eb => ?_⟩⟩⟩
      by_cases hw : wd = star
      · rw [decide_eq_true hw] at eb
        refine q b [] H3 (Same.trans s2 s3) (Same.free s2 nb) eb (fun x => by simp only [wds]; rw [if_pos hw]) (Nat.zero_le _)
      · rw [decide_eq_false hw] at eb
        refine q b [wd] H3 (Same.trans s2 s3) (Same.free s2 nb) eb (fun x => by simp only [wds]; rw [if_neg hw]) (Nat.le_refl _)
    · have hm : isTag .step p = false := by
        cases h : isTag .step p with
        | false => rfl
        | true => exact absurd h hm
      rw [hm]
      refine iteF ?_
      obtain ⟨H1, eH1⟩ : ∃ H1, H1 = H := ⟨_, rfl⟩
      have s1 : Same H H1 := by rw [eH1]; exact Same.refl H
      rw [← eH1]
      refine ⟨Nat.zero_le _, fun fl H2 s2 nfl efl => ?_⟩
      have s02 := Same.trans s1 s2
      have hp2 := hp.mono (Same.tps s02)
      have nfl0 := Same.free s1 nfl
      refine ⟨v, rfl, rfl, p, hp2, p, rfl, rfl, _, rfl, ?_⟩
      cases p with
      | many p1 =>
        refine iteT ?_
        simp only [sz] at hz
        refine ⟨v, rfl, 1, _, _, rfl, hp2, rfl, fun u du => ⟨u, p1, rfl, by omega, du, fun a ts H3 s3 na ea mem hl => ?_⟩⟩
        exact q a ts H3 (Same.trans s02 s3) (Same.free s02 na) ea mem (by simp only [sz]; omega)
      | thn ps =>
        refine iteF ?_
        refine ⟨v, rfl, rfl, _, hp2, by show 2 ≤ 1000; decide, fun t3 H3 s3 nt3 et3 => ⟨_, t3, rfl, rfl, .inl (.inl et3), _, rfl, ?_⟩⟩
        refine iteT ?_
        have s03 := Same.trans s02 s3
        refine ⟨v, rfl, 1, _, _, rfl, hp.mono (Same.tps s03), rfl, fun u du => ?_⟩
        obtain ⟨tv, us, rfl, etv, dus⟩ := du.tup_inv
        rw [pkeys_map] at dus
        have hul : us.length = ps.length := by rw [dus.length, List.length_map]
        simp only [sz] at hz
        refine ⟨tv, rfl, ⟨us, .inl (.inl etv)⟩, for_tup (K := K) (a := tv) (xs := us) (fun i σ H' => ∃ (fl : Addr) (ts : List Str) (v2 : Option V), σ = [some v, some (.ref fl), v2] ∧ Same H3 H' ∧ H fl = none ∧ H' fl = some (.lst (ts.map V.str)) ∧ (∀ x, x ∈ ts ↔ x ∈ wdss (ps.take i)) ∧ ts.length ≤ szs (ps.take i)) ?_ ?_ ?_ ?_⟩
        · exact ⟨fl, [], none, rfl, Same.refl _, nfl0, s3 _ _ efl, fun x => by simp [wdss], by simp [szs]⟩
        · rintro i σ H4 hi ⟨fl, ts, v2, rfl, s4, _⟩
          exact .inl (.inl (s4 _ _ etv))
        · rintro i x σ H4 hi ⟨fl, ts, v2, rfl, s4, nfl, efl, mem, hl⟩
          obtain ⟨pi, epi, dpi⟩ := dus.at_ hi
          have hzi := szs_mem (List.mem_of_getElem? epi)
          have htk : szs (ps.take i) ≤ szs ps := by
            have := szs_append (ps.take i) (ps.drop i)
            rw [List.take_append_drop] at this
            omega
          refine ⟨.ref fl, rfl, x, rfl, x, pi, rfl, by omega, dpi.mono (Same.tps s4), fun a2 t2 H5 s5 na2 ea2 mem2 hl2 => ?_⟩
          refine ⟨fl, a2, _, _, rfl, rfl, s5 _ _ efl, ea2, by rw [List.length_map, List.length_map]; omega, fun b H6 s6 nb eb => ?_⟩
          rw [← List.map_append] at eb
          have s46 := Same.trans s5 s6
          refine ⟨b, ts ++ t2, _, rfl, Same.trans s4 s46, Same.free (Same.trans s03 (Same.trans s4 s5)) nb, eb, fun y => ?_, ?_⟩
          · rw [take_snoc epi, List.mem_append, mem, mem2, mem_wdss, mem_wdss]
            simp [or_and_right, exists_or]
          · rw [take_snoc epi, szs_append, List.length_append]
            simp only [szs]
            omega
        · rintro σ H4 ⟨fl, ts, v2, rfl, s4, nfl, efl, mem, hl⟩
          rw [hul, List.take_length] at mem hl
          refine ⟨_, rfl, fl, ts, rfl, .inl (.inl (.inl efl)), by omega, fun S H5 s5 nS eS => ⟨S, _, rfl, eS, fun a H6 s6 na ea => ?_⟩⟩
          have s46 := Same.trans s5 s6
          refine q a _ H6 (Same.trans s03 (Same.trans s4 s46)) (Same.free (Same.trans s03 (Same.trans s4 s5)) na) ea (fun x => by rw [mem_sset, mem, wds]) ?_
          have := sset_len ts
          simp only [sz]
          omega
      | eit ps =>
        refine iteF ?_
        refine ⟨v, rfl, rfl, _, hp2, by show 2 ≤ 1000; decide, fun t3 H3 s3 nt3 et3 => ⟨_, t3, rfl, rfl, .inl (.inl et3), _, rfl, ?_⟩⟩
        refine iteT ?_
        have s03 := Same.trans s02 s3
        refine ⟨v, rfl, 1, _, _, rfl, hp.mono (Same.tps s03), rfl, fun u du => ?_⟩
        obtain ⟨tv, us, rfl, etv, dus⟩ := du.tup_inv
        rw [pkeys_map] at dus
        have hul : us.length = ps.length := by rw [dus.length, List.length_map]
        simp only [sz] at hz
        refine ⟨tv, rfl, ⟨us, .inl (.inl etv)⟩, for_tup (K := K) (a := tv) (xs := us) (fun i σ H' => ∃ (fl : Addr) (ts : List Str) (v2 : Option V), σ = [some v, some (.ref fl), v2] ∧ Same H3 H' ∧ H fl = none ∧ H' fl = some (.lst (ts.map V.str)) ∧ (∀ x, x ∈ ts ↔ x ∈ wdss (ps.take i)) ∧ ts.length ≤ szs (ps.take i)) ?_ ?_ ?_ ?_⟩
        · exact ⟨fl, [], none, rfl, Same.refl _, nfl0, s3 _ _ efl, fun x => by simp [wdss], by simp [szs]⟩
        · rintro i σ H4 hi ⟨fl, ts, v2, rfl, s4, _⟩
          exact .inl (.inl (s4 _ _ etv))
        · rintro i x σ H4 hi ⟨fl, ts, v2, rfl, s4, nfl, efl, mem, hl⟩
          obtain ⟨pi, epi, dpi⟩ := dus.at_ hi
          have hzi := szs_mem (List.mem_of_getElem? epi)
          have htk : szs (ps.take i) ≤ szs ps := by
            have := szs_append (ps.take i) (ps.drop i)
            rw [List.take_append_drop] at this
            omega
          refine ⟨.ref fl, rfl, x, rfl, x, pi, rfl, by omega, dpi.mono (Same.tps s4), fun a2 t2 H5 s5 na2 ea2 mem2 hl2 => ?_⟩
          refine ⟨fl, a2, _, _, rfl, rfl, s5 _ _ efl, ea2, by rw [List.length_map, List.length_map]; omega, fun b H6 s6 nb eb => ?_⟩
          rw [← List.map_append] at eb
          have s46 := Same.trans s5 s6
          refine ⟨b, ts ++ t2, _, rfl, Same.trans s4 s46, Same.free (Same.trans s03 (Same.trans s4 s5)) nb, eb, fun y => ?_, ?_⟩
          · rw [take_snoc epi, List.mem_append, mem, mem2, mem_wdss, mem_wdss]
            simp [or_and_right, exists_or]
          · rw [take_snoc epi, szs_append, List.length_append]
            simp only [szs]
            omega
        · rintro σ H4 ⟨fl, ts, v2, rfl, s4, nfl, efl, mem, hl⟩
          rw [hul, List.take_length] at mem hl
          refine ⟨_, rfl, fl, ts, rfl, .inl (.inl (.inl efl)), by omega, fun S H5 s5 nS eS => ⟨S, _, rfl, eS, fun a H6 s6 na ea => ?_⟩⟩
          have s46 := Same.trans s5 s6
          refine q a _ H6 (Same.trans s03 (Same.trans s4 s46)) (Same.free (Same.trans s03 (Same.trans s4 s5)) na) ea (fun x => by rw [mem_sset, mem, wds]) ?_
          have := sset_len ts
          simp only [sz]
          omega
      | stay =>
        refine iteF ?_
        refine ⟨v, rfl, rfl, _, hp2, by show 2 ≤ 1000; decide, fun t3 H3 s3 nt3 et3 => ⟨_, t3, rfl, rfl, .inl (.inl et3), _, rfl, ?_⟩⟩
        refine iteF ?_
        refine ⟨_, rfl, fl, [], rfl, .inl (.inl (.inl (s3 _ _ efl))), Nat.zero_le _, fun S H4 s4 nS eS => ⟨S, _, rfl, eS, fun a H5 s5 na ea => ?_⟩⟩
        have s35 := Same.trans (Same.trans s3 s4) s5
        exact q a _ H5 (Same.trans s02 s35) (Same.free (Same.trans s02 (Same.trans s3 s4)) na) ea (fun x => by simp [mem_sset, wds]) (Nat.le_trans (sset_len _) (Nat.zero_le _))
      | att m =>
        refine iteF ?_
        refine ⟨v, rfl, rfl, _, hp2, by show 2 ≤ 1000; decide, fun t3 H3 s3 nt3 et3 => ⟨_, t3, rfl, rfl, .inl (.inl et3), _, rfl, ?_⟩⟩
        refine iteF ?_
        refine ⟨_, rfl, fl, [], rfl, .inl (.inl (.inl (s3 _ _ efl))), Nat.zero_le _, fun S H4 s4 nS eS => ⟨S, _, rfl, eS, fun a H5 s5 na ea => ?_⟩⟩
        have s35 := Same.trans (Same.trans s3 s4) s5
        exact q a _ H5 (Same.trans s02 s35) (Same.free (Same.trans s02 (Same.trans s3 s4)) na) ea (fun x => by simp [mem_sset, wds]) (Nat.le_trans (sset_len _) (Nat.zero_le _))
      | off m =>
        refine iteF ?_
        refine ⟨v, rfl, rfl, _, hp2, by show 2 ≤ 1000; decide, fun t3 H3 s3 nt3 et3 => ⟨_, t3, rfl, rfl, .inl (.inl et3), _, rfl, ?_⟩⟩
        refine iteF ?_
        refine ⟨_, rfl, fl, [], rfl, .inl (.inl (.inl (s3 _ _ efl))), Nat.zero_le _, fun S H4 s4 nS eS => ⟨S, _, rfl, eS, fun a H5 s5 na ea => ?_⟩⟩
        have s35 := Same.trans (Same.trans s3 s4) s5
        exact q a _ H5 (Same.trans s02 s35) (Same.free (Same.trans s02 (Same.trans s3 s4)) na) ea (fun x => by simp [mem_sset, wds]) (Nat.le_trans (sset_len _) (Nat.zero_le _))
      | step sd wd => cases hm
theorem words_all (W : Wd K mg) : ∀ N, N ≤ 100 → Cl P w K mg base "_law_words_of" ["_law_pattern_here"] (N + 1) (sqOf wds N)
  | 0, _ => words0 W
  | N + 1, h => ok_L_words_of W (by omega) (words_all W N (by omega))
end
end Pk
namespace Pk
set_option autoImplicit false
set_option maxRecDepth 100000
set_option maxHeartbeats 4000000
open PySem PySem.Spec PyProof.Rows L2
theorem sc_L_asked : FnScope ["_law_one", "_law_other", "_law_sets", "_law_mark", "_law_words", "_law_more", "_law_steps", "_law_word", "_law_some"] ["_law_one", "_law_other"] d_L_asked.scope := ⟨rfl, rfl, rfl, by decide +kernel, rfl, by decide +kernel, by decide +kernel⟩
def nCatM : R2 := fun x y H Q => ∃ (a b : Addr) (ts : List Str) (m : Str), x = .ref a ∧ y = .ref b ∧ H a = some (.tup (ts.map V.str)) ∧ H b = some (.tup [V.str m]) ∧ ts.length ≤ 1000 ∧ ∀ (v : V) (H' : Hp), Same H H' → Dn H' v (tk (ts ++ [m])) → Q v H'
theorem n_catM {X : Cx} : OpR X (binaryOp .Add) nCatM := OpR.imp op_catA fun x y H Q h => by
  obtain ⟨a, b, ts, m, rfl, rfl, ha, hb, hl, q⟩ := h
  refine ⟨a, b, _, _, rfl, rfl, .inl (.inl ha), .inl (.inl hb), small_ (m := 1001) (by rw [List.length_map]; show _ + 1 ≤ _; omega) (by decide), fun e => ?_, fun _ e => (by cases e), fun _ _ p np => ?_⟩
  · have : ts = [] := by cases ts with
      | nil => rfl
      | cons x r => cases e
    rw [this] at q
    exact q _ H (Same.refl H) (dn_row hb)
  · refine q _ _ (Same.new np) (dn_row ?_)
    rw [upd_same, List.map_append] <;> rfl
def lawU : List Str := ["u", "uu", "uuu", "uuuu", "uuuuu"]
theorem lawU_new : ∀ x ∈ lawU, x ∉ nameT := by decide +kernel
section
variable {P : Program} {w : World} {K : PySem.W.Frag} {mg : Str → Option Value} {base : Heap}
def sqAsked : Sq := fun vs H Q => ∃ (v u : V) (p r : Pat), vs = [v, u] ∧ Dn H v (pkey p) ∧ Dn H u (pkey r) ∧ sz p ≤ 8 ∧ sz r ≤ 8 ∧ (∀ x ∈ wds p, x ∈ nameT) ∧ (∀ x ∈ wds r, x ∈ nameT) ∧ (askM p r).length ≤ 6 ∧
  ∀ (t sa st : Addr) (H' : Hp), Same H H' → H' t = some (.tup [.ref sa, .ref st]) → Lk H' sa ((subsF (askM p r)).map tk) → Lk H' st ((pairsOf sideT (askW p r ++ [("u" : Str)])).map skey) → Q (.ref t) H'
theorem ok_L_asked (W : Wd K mg) : Cl P w K mg base "_law_asked" ["_law_one", "_law_other"] 10 sqAsked := by
  refine mk_cl W 34 24 (d := d_L_asked) rfl rfl rfl rfl sc_L_asked (fun _ _ _ _ _ _ us hl => match us, hl with | [_, _], _ => rfl) (fun vs H Q h => ?_) (fun f cdv A outer s H vs Q E hr h => ?_)
  · obtain ⟨v, u, p, r, rfl, _⟩ := h
    rfl
  · obtain ⟨v, u, p, r, rfl, hp, hq, zp, zr, wp, wr, hm6, fin⟩ := h
    have hu := hr.units
    have c_L_marks_of := marks_all (P := P) (w := w) (base := base) W 8 (by decide)
    have c_L_words_of := words_all (P := P) (w := w) (base := base) W 8 (by decide)
    refine ⟨_, (pss_cons (ps_set (i := 2) sc_L_asked.nd rfl (Or.inl rfl) (pe_lstN (pa_cons (pe_tupN pa_nil) pa_nil)))
      (pss_cons (ps_for PassesOwn.never rfl (pi_list (pe_callB (n_sortS hu rfl) (by rfl) (W.free 33) (by decide +kernel) (pa_cons (pe_callTy (n_setS rfl) (by rfl) (W.free 34) (by decide +kernel) (pa_cons (pe_op n_cat (pe_fn c_L_marks_of (hr.mono (by omega)) (by rfl) (pa_cons (pv 0) pa_nil)) (pe_fn c_L_marks_of (hr.mono (by omega)) (by rfl) (pa_cons (pv 1) pa_nil))) pa_nil)) pa_nil))) (pg_name (i := 3) sc_L_asked.nd rfl (Or.inr rfl))
        (pss_one (ps_set (i := 2) sc_L_asked.nd rfl (Or.inl rfl) (pe_op n_cat (pv 2) (pe_lc (own := [("_law_some", 8)]) rfl sc_L_asked.nd (pi_list (pv 2)) (blkOk_by (own := [("_law_some", 8)]) (N := ["_law_one", "_law_other", "_law_sets", "_law_mark", "_law_words", "_law_more", "_law_steps", "_law_word", "_law_some"]) (sc := d_L_asked.scope) (by decide +kernel)) (fun _ _ _ _ _ => (pg_name (i := 8) sc_L_asked.nd rfl (Or.inl rfl))) (fun _ _ _ _ _ => pts_nil) (fun _ _ _ _ _ => (pe_op (show OpR _ _ (nCatM) from n_catM) (pv 8) (pe_tupN (pa_cons (pv 3) pa_nil)))))))))
      (pss_cons (ps_set (i := 4) sc_L_asked.nd rfl (Or.inr rfl) (pe_callB (n_sortS hu rfl) (by rfl) (W.free 33) (by decide +kernel) (pa_cons (pe_callTy (n_setS rfl) (by rfl) (W.free 34) (by decide +kernel) (pa_cons (pe_op n_cat (pe_fn c_L_words_of (hr.mono (by omega)) (by rfl) (pa_cons (pv 0) pa_nil)) (pe_fn c_L_words_of (hr.mono (by omega)) (by rfl) (pa_cons (pv 1) pa_nil))) pa_nil)) pa_nil)))
      (pss_cons (ps_set (i := 5) sc_L_asked.nd rfl (Or.inl rfl) (pe_ix ix_list (pe_lc (own := [("_law_word", 7)]) rfl sc_L_asked.nd (pi_list (pe_lstN (pa_cons pe_str (pa_cons pe_str (pa_cons pe_str (pa_cons pe_str (pa_cons pe_str pa_nil))))))) (blkOk_by (own := [("_law_word", 7)]) (N := ["_law_one", "_law_other", "_law_sets", "_law_mark", "_law_words", "_law_more", "_law_steps", "_law_word", "_law_some"]) (sc := d_L_asked.scope) (by decide +kernel)) (fun _ _ _ _ _ => (pg_name (i := 7) sc_L_asked.nd rfl (Or.inl rfl))) (fun _ _ _ _ _ => (pts_one (pt_cmpR (show OpR _ _ (rNotInS K) from op_notInS) (pv 7) (pv 4) (by rfl)))) (fun _ _ _ _ _ => (pv 7))) pe_int (fun _ _ => rfl)))
      (pss_cons (ps_set (i := 6) sc_L_asked.nd rfl (Or.inl rfl) (pe_op n_cat (pe_lc (own := [("_law_word", 7)]) rfl sc_L_asked.nd (pi_list (pe_op n_cat (pv 4) (pe_lstN (pa_cons (pv 5) pa_nil)))) (blkOk_by (own := [("_law_word", 7)]) (N := ["_law_one", "_law_other", "_law_sets", "_law_mark", "_law_words", "_law_more", "_law_steps", "_law_word", "_law_some"]) (sc := d_L_asked.scope) (by decide +kernel)) (fun _ _ _ _ _ => (pg_name (i := 7) sc_L_asked.nd rfl (Or.inl rfl))) (fun _ _ _ _ _ => pts_nil) (fun _ _ _ _ _ => (pe_tupN (pa_cons pe_str (pa_cons (pv 7) pa_nil))))) (pe_lc (own := [("_law_word", 7)]) rfl sc_L_asked.nd (pi_list (pe_op n_cat (pv 4) (pe_lstN (pa_cons (pv 5) pa_nil)))) (blkOk_by (own := [("_law_word", 7)]) (N := ["_law_one", "_law_other", "_law_sets", "_law_mark", "_law_words", "_law_more", "_law_steps", "_law_word", "_law_some"]) (sc := d_L_asked.scope) (by decide +kernel)) (fun _ _ _ _ _ => (pg_name (i := 7) sc_L_asked.nd rfl (Or.inl rfl))) (fun _ _ _ _ _ => pts_nil) (fun _ _ _ _ _ => (pe_tupN (pa_cons pe_str (pa_cons (pv 7) pa_nil)))))))
      (pss_one (ps_ret (pe_tupN (pa_cons (pv 2) (pa_cons (pv 6) pa_nil)))))))))), ?_⟩
    refine ⟨Nat.zero_le _, fun z0 H0 s0 n0 e0 => ⟨by show 1 ≤ 1000; decide, fun fl Hf sf nf ef => ?_⟩⟩
    have sf1 := Same.trans s0 sf
    refine ⟨v, rfl, v, p, rfl, zp, hp.mono (Same.tps sf1), fun a1 t1 H1 s1 na1 e1 m1 l1 => ⟨u, rfl, u, r, rfl, zr, (hq.mono (Same.tps sf1)).mono (Same.tps s1), fun a2 t2 H2 s2 na2 e2 m2 l2 => ?_⟩⟩
    refine ⟨a1, a2, _, _, rfl, rfl, s2 _ _ e1, e2, by rw [List.length_map, List.length_map]; omega, fun a3 H3 s3 na3 e3 => ?_⟩
    rw [← List.map_append] at e3
    refine ⟨a3, _, rfl, .inl (.inl (.inl e3)), by rw [List.length_append]; omega, fun S H4 s4 nS e4 => ⟨S, _, rfl, e4, fun ml H5 s5 nml em => ?_⟩⟩
    have sH5 : Same Hf H5 := Same.trans (Same.trans (Same.trans (Same.trans s1 s2) s3) s4) s5
    have eMs : sset (t1 ++ t2) = askM p r := by
      unfold askM
      refine sset_congr fun x => ?_
      rw [List.mem_append, List.mem_append, mem_sset, mem_sset, m1, m2]
    have eM : H5 ml = some (.lst ((askM p r).map V.str)) := by rw [em, eMs]
    have ef5 : Lk H5 fl ((subsF []).map tk) := ⟨_, sH5 _ _ ef, .cons (.tup (sH5 _ _ (sf _ _ e0)) .nil) .nil⟩
    clear e3 e4 e1 e2 em
    obtain ⟨M, eMM⟩ : ∃ M, M = askM p r := ⟨_, rfl⟩
    rw [← eMM] at eM hm6 fin
    refine ⟨ml, rfl, ⟨_, .inl (.inl eM)⟩, for_list (K := K) (a := ml) (xs := M.map V.str) (fun i σ H' => ∃ (v3 : Option V) (fl : Addr), σ = [some v, some u, some (.ref fl), v3, none, none, none, none, none] ∧ Same H5 H' ∧ Lk H' fl ((subsF (M.take i)).map tk)) ?_ ?_ ?_ ?_⟩
    · exact ⟨none, fl, rfl, Same.refl _, ef5⟩
    · rintro i σ H7 hi ⟨v3, fl, rfl, s7, _⟩
      exact .inl (.inl (s7 _ _ eM))
    · rintro i x σ H7 hi ⟨v3, fl, rfl, s7, ys, ey, dy⟩
      rw [List.getElem?_map] at hi
      cases ez : M[i]? with
      | none => rw [ez] at hi; cases hi
      | some m =>
        rw [ez] at hi
        cases hi
        have hi6 : i < 6 := Nat.lt_of_lt_of_le (List.getElem?_eq_some_iff.mp ez).1 hm6
        have hlen : (subsF (M.take i)).length ≤ 64 := by
          rw [subsF_len]
          have : (M.take i).length ≤ 6 := by rw [List.length_take]; omega
          exact Nat.le_trans (Nat.pow_le_pow_right (by decide) this) (by decide)
        have hyl : ys.length = (subsF (M.take i)).length := by rw [dy.length, List.length_map]
        refine ⟨.ref fl, rfl, .ref fl, rfl, fl, rfl, ⟨_, .inl (.inl ey)⟩, fun D nD => lc_list (K := K) (a := fl) (xs := ys) (fun j Hy => Same H7 Hy ∧ Lk Hy D ((((subsF (M.take i)).take j).map fun ts => ts ++ [m]).map tk)) ⟨Same.new nD, ⟨_, upd_same, .nil⟩⟩
          (fun j Hy _ ⟨sy, _⟩ => .inl (.inl (sy _ _ ey))) ?_ ?_⟩
        · rintro j y Hy hj ⟨sy, acc, eacc, dacc⟩
          obtain ⟨k, ek, dk⟩ := (dy.mono (Same.tps sy)).getV hj
          rw [List.getElem?_map] at ek
          cases ets : (subsF (M.take i))[j]? with
          | none => rw [ets] at ek; cases ek
          | some ts =>
            rw [ets] at ek
            cases ek
            obtain ⟨b, rfl, eb⟩ := tk_inv dk
            have hal : acc.length ≤ 64 := by
              rw [dacc.length, List.length_map, List.length_map, List.length_take]
              omega
            have hts := subsF_small (List.mem_of_getElem? ets)
            rw [List.length_take] at hts
            refine ⟨rfl, lc_yes ?_⟩
            refine ⟨.ref b, rfl, .str m, rfl, by show 1 ≤ 1000; decide, fun c Hc sc nc ec => ⟨b, c, ts, m, rfl, rfl, sc _ _ eb, ec, by omega, fun vt Ht st dt => ?_⟩⟩
            have sct := Same.trans sc st
            have eact := sct _ _ eacc
            refine ⟨acc, eact, small_lt hal (by decide), But.same nD (Same.trans sy sct) But.upd, ?_⟩
            have tt : Tps Ht (upd Ht D (.lst (acc ++ [vt]))) := Tps.mut eact (by intro xs z; cases z)
            rw [take_snoc ets, List.map_append, List.map_append]
            exact ⟨_, upd_same, ((dacc.mono (Same.tps sct)).mono tt).append (.cons (dt.mono tt) .nil)⟩
        · rintro Hy ⟨sy, acc, eacc, dacc⟩
          rw [hyl, List.take_length] at dacc
          have hal : acc.length ≤ 64 := by
            rw [dacc.length, List.length_map, List.length_map]
            omega
          refine ⟨fl, D, ys, acc, rfl, rfl, sy _ _ ey, eacc, by omega, fun q Hq sq nq eq => ?_⟩
          refine ⟨_, q, rfl, Same.trans (Same.trans s7 sy) sq, _, eq, ?_⟩
          rw [take_snoc ez, subsF_snoc, List.map_append]
          exact ((dy.mono (Same.tps sy)).mono (Same.tps sq)).append (dacc.mono (Same.tps sq))
    · rintro σ H7 ⟨v3, sl, rfl, s7, lt⟩
      rw [List.length_map, List.take_length] at lt
      have s07 : Same H H7 := Same.trans (Same.trans sf1 sH5) s7
      refine ⟨v, rfl, v, p, rfl, zp, hp.mono (Same.tps s07), fun a1 w1 H8 s8 na8 e8 mw1 lw1 => ⟨u, rfl, u, r, rfl, zr, (hq.mono (Same.tps s07)).mono (Same.tps s8), fun a2 w2 H9 s9 na9 e9 mw2 lw2 => ?_⟩⟩
      refine ⟨a1, a2, _, _, rfl, rfl, s9 _ _ e8, e9, by rw [List.length_map, List.length_map]; omega, fun a3 H10 s10 na3 e10 => ?_⟩
      rw [← List.map_append] at e10
      refine ⟨a3, _, rfl, .inl (.inl (.inl e10)), by rw [List.length_append]; omega, fun S H11 s11 nS e11 => ⟨S, _, rfl, e11, fun wl H12 s12 nwl ew => ?_⟩⟩
      have eWs : sset (w1 ++ w2) = askW p r := by
        unfold askW
        refine sset_congr fun x => ?_
        rw [List.mem_append, List.mem_append, mem_sset, mem_sset, mw1, mw2]
      rw [eWs] at ew
      obtain ⟨Wl, eWl⟩ : ∃ Wl, Wl = askW p r := ⟨_, rfl⟩
      rw [← eWl] at ew fin
      have hWn : ∀ x ∈ Wl, x ∈ nameT := fun x hx => by
        rw [eWl] at hx
        rcases List.mem_append.mp (mem_sset.mp hx) with h | h
        · exact wp x (mem_sset.mp h)
        · exact wr x (mem_sset.mp h)
      have hWl : Wl.length ≤ 16 := by
        rw [eWl]
        refine Nat.le_trans (sset_len _) ?_
        have l1 := wds_len p
        have l2 := wds_len r
        rw [List.length_append]
        omega
      have s7_12 := Same.trans (Same.trans (Same.trans (Same.trans s8 s9) s10) s11) s12
      clear e8 e9 e10 e11
      -- more
      refine ⟨by show 5 ≤ 1000; decide, fun ul H13 s13 nul eul => ⟨ul, rfl, ⟨_, .inl (.inl eul)⟩, fun D nD => lc_list (K := K) (a := ul) (xs := lawU.map V.str) (fun i Hx => Same H13 Hx ∧ Hx D = some (.lst ((lawU.take i).map V.str))) ⟨Same.new nD, upd_same⟩ (fun i Hx _ ⟨sx, _⟩ => .inl (.inl (sx _ _ eul))) ?_ ?_⟩⟩
      · rintro i x Hx hi ⟨sx, eD⟩
        rw [List.getElem?_map] at hi
        cases ez : lawU[i]? with
        | none => rw [ez] at hi; cases hi
        | some z =>
          rw [ez] at hi
          cases hi
          have hz : z ∉ Wl := fun h => lawU_new z (List.mem_of_getElem? ez) (hWn z h)
          refine ⟨rfl, .str z, rfl, .ref wl, rfl, z, wl, Wl, rfl, rfl, .inl (.inl (.inl (sx _ _ (s13 _ _ ew)))), _, rfl, ?_⟩
          rw [decide_eq_false hz]
          refine iteT ?_
          refine ⟨_, rfl, _, eD, ?_, But.same nD sx But.upd, ?_⟩
          · rw [List.length_map, List.length_take]
            exact small_lt (m := 100) (by have : lawU.length = 5 := rfl; omega) (by decide)
          · rw [upd_same, take_snoc ez, List.map_append] <;> rfl
      · rintro Hx ⟨sx, eD⟩
        refine ⟨D, _, 0, .str "u", rfl, rfl, .inl (.inl eD), atI_nat (j := 0) rfl, ?_⟩
        have ewx := sx _ _ (s13 _ _ ew)
        have s7x := Same.trans (Same.trans s7_12 s13) sx
        have hyl : (Wl ++ [("u" : Str)]).length ≤ 17 := by rw [List.length_append]; simp; omega
        -- steps: on
        refine ⟨.ref wl, rfl, .str "u", rfl, by show 1 ≤ 1000; decide, fun x1 Ha sa na ea => ⟨wl, x1, _, _, rfl, rfl, sa _ _ ewx, ea, by rw [List.length_map]; show _ + 1 ≤ _; omega, fun y1 Hb sb nb eb => ?_⟩⟩
        have eb : Hb y1 = some (.lst ((Wl ++ [("u" : Str)]).map V.str)) := by rw [eb, List.map_append] <;> rfl
        refine ⟨y1, rfl, ⟨_, .inl (.inl eb)⟩, fun D1 nD1 => lc_list (K := K) (a := y1) (xs := (Wl ++ [("u" : Str)]).map V.str) (fun j Hy => Same Hb Hy ∧ Lk Hy D1 ((((Wl ++ [("u" : Str)]).take j).map fun v => (("on" : Str), v)).map skey)) ⟨Same.new nD1, ⟨_, upd_same, .nil⟩⟩ (fun j Hy _ ⟨sy, _⟩ => .inl (.inl (sy _ _ eb))) ?_ ?_⟩
        · rintro j y Hy hj ⟨sy, acc, eacc, dacc⟩
          rw [List.getElem?_map] at hj
          cases ezj : (Wl ++ [("u" : Str)])[j]? with
          | none => rw [ezj] at hj; cases hj
          | some z =>
            rw [ezj] at hj
            cases hj
            have hal : acc.length ≤ 100 := by
              rw [dacc.length, List.length_map, List.length_map, List.length_take]
              omega
            refine ⟨rfl, lc_yes ?_⟩
            refine ⟨.str z, rfl, by show 2 ≤ 1000; decide, fun t Ht st nt et => ⟨acc, st _ _ eacc, small_lt hal (by decide), But.same nD1 (Same.trans sy st) But.upd, ?_⟩⟩
            have tt : Tps Ht (upd Ht D1 (.lst (acc ++ [.ref t]))) := Tps.mut (st _ _ eacc) (by intro xs z; cases z)
            rw [take_snoc ezj, List.map_append, List.map_append]
            exact ⟨_, upd_same, ((dacc.mono (Same.tps st)).mono tt).append (.cons (.tup (tt _ _ et) (.cons (.text _) (.cons (.text _) .nil))) .nil)⟩
        · rintro Hy ⟨sy, l1⟩
          rw [List.length_map, List.take_length] at l1
          have sxy := Same.trans (Same.trans sa sb) sy
          -- steps: back
          refine ⟨.ref wl, rfl, .str "u", rfl, by show 1 ≤ 1000; decide, fun x2 Hc sc nc ec => ⟨wl, x2, _, _, rfl, rfl, sc _ _ (sxy _ _ ewx), ec, by rw [List.length_map]; show _ + 1 ≤ _; omega, fun y2 Hd sd nd ed => ?_⟩⟩
          have ed : Hd y2 = some (.lst ((Wl ++ [("u" : Str)]).map V.str)) := by rw [ed, List.map_append] <;> rfl
          refine ⟨y2, rfl, ⟨_, .inl (.inl ed)⟩, fun D2 nD2 => lc_list (K := K) (a := y2) (xs := (Wl ++ [("u" : Str)]).map V.str) (fun j Hz => Same Hd Hz ∧ Lk Hz D2 ((((Wl ++ [("u" : Str)]).take j).map fun v => (("back" : Str), v)).map skey)) ⟨Same.new nD2, ⟨_, upd_same, .nil⟩⟩ (fun j Hz _ ⟨sz, _⟩ => .inl (.inl (sz _ _ ed))) ?_ ?_⟩
          · rintro j y Hz hj ⟨sz', acc, eacc, dacc⟩
            rw [List.getElem?_map] at hj
            cases ezj : (Wl ++ [("u" : Str)])[j]? with
            | none => rw [ezj] at hj; cases hj
            | some z =>
              rw [ezj] at hj
              cases hj
              have hal : acc.length ≤ 100 := by
                rw [dacc.length, List.length_map, List.length_map, List.length_take]
                omega
              refine ⟨rfl, lc_yes ?_⟩
              refine ⟨.str z, rfl, by show 2 ≤ 1000; decide, fun t Ht st nt et => ⟨acc, st _ _ eacc, small_lt hal (by decide), But.same nD2 (Same.trans sz' st) But.upd, ?_⟩⟩
              have tt : Tps Ht (upd Ht D2 (.lst (acc ++ [.ref t]))) := Tps.mut (st _ _ eacc) (by intro xs z; cases z)
              rw [take_snoc ezj, List.map_append, List.map_append]
              exact ⟨_, upd_same, ((dacc.mono (Same.tps st)).mono tt).append (.cons (.tup (tt _ _ et) (.cons (.text _) (.cons (.text _) .nil))) .nil)⟩
          · rintro Hz ⟨sz', c2, ec2, dc2⟩
            rw [List.length_map, List.take_length] at dc2
            obtain ⟨c1, ec1, dc1⟩ := l1
            have syz := Same.trans (Same.trans sc sd) sz'
            have hc1 : c1.length ≤ 17 := by rw [dc1.length, List.length_map, List.length_map]; exact hyl
            have hc2 : c2.length ≤ 17 := by rw [dc2.length, List.length_map, List.length_map]; exact hyl
            refine ⟨D1, D2, c1, c2, rfl, rfl, syz _ _ ec1, ec2, by omega, fun st He se ne ee => ?_⟩
            refine ⟨.ref sl, rfl, .ref st, rfl, by show 2 ≤ 1000; decide, fun t Hf2 sf2 nt et => ?_⟩
            have sall := Same.trans (Same.trans (Same.trans (Same.trans s7x sxy) syz) se) sf2
            refine fin t sl st Hf2 (Same.trans s07 sall) et ?_ ?_
            · obtain ⟨vs, a, b⟩ := lt
              exact ⟨vs, sall _ _ a, b.mono (Same.tps sall)⟩
            · refine ⟨_, sf2 _ _ ee, ?_⟩
              have e2 : pairsOf sideT (Wl ++ [("u" : Str)]) = ((Wl ++ [("u" : Str)]).map fun v => (("on" : Str), v)) ++ ((Wl ++ [("u" : Str)]).map fun v => (("back" : Str), v)) := by
                unfold pairsOf sideT
                simp [List.flatMap_cons]
              rw [e2, List.map_append]
              exact (((dc1.mono (Same.tps syz)).mono (Same.tps se)).mono (Same.tps sf2)).append ((dc2.mono (Same.tps se)).mono (Same.tps sf2))
end
end Pk
namespace Pk
set_option autoImplicit false
set_option maxRecDepth 100000
set_option maxHeartbeats 4000000
open PySem PySem.Spec PyProof.Rows L2
theorem sc_L_name : FnScope ["_law_thing", "_law_sign"] ["_law_thing"] d_L_name.scope := ⟨rfl, rfl, rfl, by decide +kernel, rfl, by decide +kernel, by decide +kernel⟩
theorem sc_L_rows : FnScope ["_law_rows_here", "_law_names_here", "_law_name_here", "_law_marks", "_law_tie", "_law_knot", "_law_mark"] ["_law_rows_here"] d_L_rows.scope := ⟨rfl, rfl, rfl, by decide +kernel, rfl, by decide +kernel, by decide +kernel⟩
def rNeSame (K : PySem.W.Frag) : R2 := fun x y H Q => ∃ (a b : Addr) (vs : List V) (ks : List NestedKey), x = .ref a ∧ y = .ref b ∧ SqL K H a vs ∧ SqL K H b vs ∧ DnAll H vs ks ∧ NestedKey.depthAll ks ≤ 60 ∧ okKs ks ∧ Q (.bl false) H
section
variable {X : Cx}
theorem op_neSame (hu : X.A.units + 64 < cLine) : OpR X (compareOp .NotEq) (rNeSame X.K) := OpR.imp (op_neD hu) fun x y H Q h => by
  obtain ⟨a, b, vs, ks, rfl, rfl, ha, hb, d, dp, ok, q⟩ := h
  refine ⟨_, _, dp_list ha d, dp_list hb d, shaped_list dp ok, shaped_list dp ok, ?_⟩
  rw [eqv_list ok]
  exact q
def rEqNil (K : PySem.W.Frag) : R2 := fun x y H Q => ∃ (a b : Addr), x = .ref a ∧ y = .ref b ∧ SqL K H a [] ∧ SqL K H b [] ∧ Q (.bl true) H
theorem op_eqNil (hu : X.A.units + 64 < cLine) : OpR X (compareOp .Eq) (rEqNil X.K) := OpR.imp (op_eqD hu) fun x y H Q h => by
  obtain ⟨a, b, rfl, rfl, ha, hb, q⟩ := h
  exact ⟨.list [], .list [], .lst ha .nil, .lst hb .nil, rfl, rfl, q⟩
def nSetK (K : PySem.W.Frag) (P : Program) (w : World) : List V → Hp → VK → Prop := fun xs H Q => ∃ (l : Addr) (ks : List Rw), xs = [V.ref l] ∧ SqT K H l (ks.map fun p => V.ref p.1) ∧ (∀ p ∈ ks, H p.1 = some (.tup (p.2.map V.str))) ∧ (ks.map (·.2)).Nodup ∧ ks.length ≤ 76 ∧ Nw H (fun a => KSO P w a ks) Q
theorem n_setK (hc : X.calm = true) (hu : X.A.units + 64 < cLine) : CallR X (.type "set") (nSetK X.K X.prog X.w) := CallR.imp (call_setK hc hu) fun vs H Q ⟨l, ks, a, b, c, d, e, f⟩ => ⟨l, ks, a, b, c, d, e, f.use⟩
def nSortK (P : Program) (w : World) : List V → Hp → VK → Prop := fun xs H Q => ∃ (a : Addr) (ks : List Rw), xs = [V.ref a] ∧ H a = some (KSO P w a ks) ∧ (∀ p ∈ ks, H p.1 = some (.tup (p.2.map V.str)) ∧ p.2 ≠ []) ∧ (ks.map (·.2)).Nodup ∧ Nw H (fun _ => .lst ((ks.mergeSort ple).map fun p => V.ref p.1)) Q
theorem n_sortK (hu : X.A.units + 64 < cLine) (hc : X.calm = true) : CallR X (.builtin "sorted") (nSortK X.prog X.w) := CallR.imp (call_sortK hu hc) fun vs H Q ⟨a, ks, b, c, d, e, f⟩ => ⟨a, ks, b, c, d, e, f.use⟩
end
/-- a good name -/
def nmOk (x : Str) : Bool := decide (1 ≤ x.length) && (decide (x.length ≤ 8) && x.cps.toList.all fun c => decide (c ∈ lettersS.cps.toList))
theorem nmOk_iff {x : Str} (h : nmOk x = true) : 1 ≤ x.length ∧ x.length ≤ 8 ∧ ∀ c ∈ x.cps.toList, c ∈ lettersS.cps.toList := by
  unfold nmOk at h
  rw [Bool.and_eq_true, Bool.and_eq_true] at h
  refine ⟨of_decide_eq_true h.1, of_decide_eq_true h.2.1, fun c hc => ?_⟩
  exact of_decide_eq_true (List.all_eq_true.mp h.2.2 c hc)
theorem nmOk_str {x : Str} (h : nmOk x = true) : PyData.strOk x = true := by
  obtain ⟨_, _, h3⟩ := nmOk_iff h
  unfold PyData.strOk
  rw [← Array.all_toList, List.all_eq_true]
  intro c hc
  have : ∀ c ∈ lettersS.cps.toList, c < 0x110000 := by decide +kernel
  exact decide_eq_true (this c (h3 c hc))
theorem nameT_nm : ∀ x ∈ nameT, nmOk x = true := by decide +kernel
theorem letters_nm : ∀ x ∈ letters, nmOk x = true := by decide +kernel
theorem knot_nm {k : Nat} (h : k < 70) : nmOk (knotF k) = true := by
  have : ∀ k : Fin 70, nmOk (knotF k.val) = true := by decide +kernel
  exact this ⟨k, h⟩
theorem knots_nd {n : Nat} (h : n ≤ 70) : ((List.range n).map knotF).Nodup := by
  have h70 : ((List.range 70).map knotF).Nodup := by decide +kernel
  refine (List.Sublist.map knotF ?_).nodup h70
  have e : List.range 70 = List.range n ++ (List.range (70 - n)).map (n + ·) := by
    rw [← List.range_add]
    congr 1
    omega
  rw [e]
  exact List.sublist_append_left _ _
theorem okKs_texts {ts : List Str} (h : ∀ x ∈ ts, nmOk x = true) : okKs (ts.map .text) := okKs_of fun k hk => by
  obtain ⟨x, hx, rfl⟩ := List.mem_map.mp hk
  simp only [okK]
  exact nmOk_str (h x hx)
theorem depth_tx (ts : List Str) : NestedKey.depthAll (ts.map .text) = 0 := by
  induction ts with
  | nil => rfl
  | cons t ts ih =>
    show max 0 (NestedKey.depthAll _) = 0
    rw [ih] <;> rfl
section
variable {P : Program} {w : World} {K : PySem.W.Frag} {mg : Str → Option Value} {base : Heap}
def sqName : Sq := fun vs H Q => ∃ (x : Str), vs = [.str x] ∧ nmOk x = true ∧ ∀ H', Same H H' → Q (.bl true) H'
theorem ok_L_name (W : Wd K mg) : Cl P w K mg base "_law_name" ["_law_thing"] 1 sqName := by
  refine mk_cl W 36 26 (d := d_L_name) rfl rfl rfl rfl sc_L_name (fun _ _ _ _ _ _ us hl => match us, hl with | [_], _ => rfl) (fun vs H Q h => ?_) (fun f cdv A outer s H vs Q E hr h => ?_)
  · obtain ⟨x, rfl, _⟩ := h
    rfl
  · obtain ⟨x, rfl, hx, q⟩ := h
    have hu := hr.units
    obtain ⟨h1, h2, h3⟩ := nmOk_iff hx
    refine ⟨_, (pss_cons (ps_if (PW.pt (pw_or (pt_not (pt_val (pe_callB call_isTS (by rfl) (W.free 41) (by decide +kernel) (pa_cons (pv 0) (pa_cons (pe_bltn (v := .ty "str") (by rfl) (W.free 43) (by decide +kernel) rfl) pa_nil))))) (pw_or (pt_cmpR op_lt (pe_callB call_len (by rfl) (W.free 32) PySem.boot_len (pa_cons (pv 0) pa_nil)) pe_int (nomark _)) (pw_or1 (pt_cmpR op_gt (pe_callB call_len (by rfl) (W.free 32) PySem.boot_len (pa_cons (pv 0) pa_nil)) pe_int (nomark _))))))
        (pss_one (ps_ret pe_bl))
        pss_nil)
      (pss_one (ps_ret (pe_cmpR (op_eqNil hu) (pe_lc (own := [("_law_sign", 1)]) rfl sc_L_name.nd (pi_str (pv 0)) (blkOk_by (own := [("_law_sign", 1)]) (N := ["_law_thing", "_law_sign"]) (sc := d_L_name.scope) (by decide +kernel)) (fun _ _ _ _ _ => (pg_name (i := 1) sc_L_name.nd rfl (Or.inl rfl))) (fun _ _ _ _ _ => (pts_one (pt_cmpR op_notIn_sign (pv 1) pe_str (by rfl)))) (fun _ _ _ _ _ => (pv 1))) (pe_lstN pa_nil) (nomark _))))), ?_⟩
    have hs : x.length ≤ sizeLine := small_ (m := 8) h2 (by decide)
    refine ⟨.str x, rfl, .str x, .inr ⟨x, rfl, rfl⟩, _, rfl, ?_⟩
    refine iteF ?_
    refine ⟨.str x, rfl, .str x, x.length, rfl, ⟨hs, rfl⟩, _, _, rfl, rfl, _, rfl, ?_⟩
    rw [decide_eq_false (show ¬ ((x.length : Int) < 1) by omega)]
    refine iteF ?_
    refine ⟨.str x, rfl, .str x, x.length, rfl, ⟨hs, rfl⟩, _, _, rfl, rfl, _, rfl, ?_⟩
    rw [decide_eq_false (show ¬ ((x.length : Int) > 8) by omega)]
    refine iteF ?_
    refine ⟨.str x, rfl, x, rfl, fun D nD => lc_str (x := x) (fun i Hx => Same H Hx ∧ Hx D = some (.lst [])) ⟨Same.new nD, upd_same⟩ ?_ ?_⟩
    · rintro i c Hx ec ⟨sx, eD⟩
      refine ⟨rfl, _, rfl, c, lettersS, rfl, rfl, _, rfl, ?_⟩
      have hc : c ∈ lettersS.cps.toList := h3 c (List.mem_of_getElem? (i := i) (by rw [Array.getElem?_toList]; exact ec))
      rw [decide_eq_true hc]
      refine iteF ?_
      exact ⟨sx, eD⟩
    · rintro Hx ⟨sx, eD⟩
      refine ⟨Nat.zero_le _, fun e H2 s2 ne ee => ⟨D, e, rfl, rfl, .inl (.inl (s2 _ _ eD)), .inl (.inl ee), q H2 (Same.trans sx s2)⟩⟩
end
end Pk
namespace Pk
set_option autoImplicit false
set_option maxRecDepth 100000
set_option maxHeartbeats 4000000
open PySem PySem.Spec PyProof.Rows L2
structure WebOk (t : Tr) (m : List Str) : Prop where
  len : t.length ≤ 64
  mrk : ∀ k, k ≤ t.length → (∀ x ∈ msk t m k, nmOk x = true) ∧ (msk t m k).Nodup ∧ (msk t m k).Pairwise (fun a b => sle a b = true) ∧ (msk t m k).length ≤ 5
  st : ∀ k, k < t.length → ((stepAt t k).1 = "on" ∨ (stepAt t k).1 = "back") ∧ nmOk (stepAt t k).2 = true
theorem ple_sorted {tl : List Rw} (nd : (tl.map (·.2)).Nodup) (pw : tl.Pairwise (fun a b => ple a b = true)) : tl.mergeSort ple = tl := by
  have tr := PySem.W.sortLe_total (listOrd itemOrd) false fun p : Rw => PySem.W.keyToks (tk p.2).data
  have pm : (tl.mergeSort ple).Pairwise fun a b => ple a b = true := List.pairwise_mergeSort tr.trans (fun a b => by rw [Bool.or_eq_true]; exact tr.total a b) tl
  refine List.Perm.eq_of_pairwise (le := fun a b => ple a b = true) (fun a b ma mb h k => ?_) pm pw (List.mergeSort_perm tl ple)
  exact nodup_snd nd ((List.mergeSort_perm tl ple).mem_iff.mp ma) mb (ple_anti h k)
theorem knotF_inj {j k : Nat} (hj : j < 70) (hk : k < 70) (h : knotF j = knotF k) : j = k := by
  have nd := knots_nd (n := 70) (Nat.le_refl _)
  have key : ∀ a b : Nat, a < b → b < 70 → knotF a ≠ knotF b := fun a b hab hb => by
    have := List.pairwise_iff_getElem.mp nd a b (by simp; omega) (by simp; omega) hab
    simpa using this
  rcases Nat.lt_trichotomy j k with h1 | h1 | h1
  · exact absurd h (key j k h1 hk)
  · exact h1
  · exact absurd h.symm (key k j h1 hj)
theorem ties_nd {t : Tr} (h : t.length ≤ 64) : (tiesOf t).Nodup := by
  unfold tiesOf
  refine List.Pairwise.map _ ?_ (List.Pairwise.and_mem.mp List.nodup_range)
  rintro a b ⟨ha, hb, hne⟩ e
  rw [List.mem_range] at ha hb
  refine hne ?_
  unfold tieOf at e
  split at e <;> split at e <;> simp only [List.cons.injEq] at e
  · exact knotF_inj (by omega) (by omega) e.1
  · have h1 := knotF_inj (by omega) (by omega) e.1
    have h2 := knotF_inj (by omega) (by omega) e.2.2.1
    omega
  · have h1 := knotF_inj (by omega) (by omega) e.1
    have h2 := knotF_inj (by omega) (by omega) e.2.2.1
    omega
  · exact knotF_inj (by omega) (by omega) e.2.2.1
theorem knot_in {t : Tr} {m : List Str} {k : Knot} (h : k ∈ knotsOf t m) : ∃ i, i ≤ t.length ∧ k = (knotF i, msk t m i) := by
  obtain ⟨i, hi, e⟩ := List.mem_map.mp h
  rw [List.mem_range] at hi
  exact ⟨i, by omega, e.symm⟩
theorem tie_in {t : Tr} {x : List Str} (h : x ∈ tiesOf t) : ∃ i, i < t.length ∧ x = tieOf t i := by
  obtain ⟨i, hi, e⟩ := List.mem_map.mp h
  rw [List.mem_range] at hi
  exact ⟨i, hi, e.symm⟩
section
variable {P : Program} {w : World} {K : PySem.W.Frag} {mg : Str → Option Value} {base : Heap}
def sqRows : Sq := fun vs H Q => ∃ (ro : Addr) (wy : V) (t : Tr) (m : List Str), vs = [.ref ro] ∧ WebR H ro wy t m ∧ WebOk t m ∧ ∀ H', Same H H' → Q (.bl true) H'
theorem ok_L_rows (W : Wd K mg) : Cl P w K mg base "_law_rows" ["_law_rows_here"] 2 sqRows := by
  refine mk_cl W 37 27 (d := d_L_rows) rfl rfl rfl rfl sc_L_rows (fun _ _ _ _ _ _ us hl => match us, hl with | [_], _ => rfl) (fun vs H Q h => ?_) (fun f cdv A outer s H vs Q E hr h => ?_)
  · obtain ⟨ro, wy, t, m, rfl, _⟩ := h
    rfl
  · obtain ⟨ro, wy, t, m, rfl, ⟨ka, ta, o, kl, tl, ero, eka, od, dkl, pkl, wkl, eta, dtl, ptl, wtl, dwy⟩, ok, q⟩ := h
    have hu := hr.units
    have c_L_name : Cl P w K mg base "_law_name" ["_law_thing"] 1 sqName := ok_L_name W
    refine ⟨_, (pss_cons (ps_if (PW.pt (pw_or (pt_not (pt_val (pe_callB call_isTS (by rfl) (W.free 41) (by decide +kernel) (pa_cons (pv 0) (pa_cons (pe_bltn (v := .ty "tuple") (by rfl) (W.free 37) (by decide +kernel) rfl) pa_nil))))) (pw_or1 (pt_cmpR op_ne (pe_callB call_len (by rfl) (W.free 32) PySem.boot_len (pa_cons (pv 0) pa_nil)) pe_int (nomark _)))))
        (pss_one (ps_ret pe_bl))
        pss_nil)
      (pss_cons (ps_if (PW.pt (pw_or (pt_not (pt_val (pe_callB call_isTS (by rfl) (W.free 41) (by decide +kernel) (pa_cons (pe_ix ix_tup (pv 0) pe_int (fun _ _ => rfl)) (pa_cons (pe_bltn (v := .ty "tuple") (by rfl) (W.free 37) (by decide +kernel) rfl) pa_nil))))) (pw_or1 (pt_not (pt_val (pe_callB call_isTS (by rfl) (W.free 41) (by decide +kernel) (pa_cons (pe_ix ix_tup (pv 0) pe_int (fun _ _ => rfl)) (pa_cons (pe_bltn (v := .ty "tuple") (by rfl) (W.free 37) (by decide +kernel) rfl) pa_nil))))))))
        (pss_one (ps_ret pe_bl))
        pss_nil)
      (pss_cons (ps_setLc (i := 1) (own := [("_law_knot", 5)]) rfl sc_L_rows.nd rfl rfl (sw_true rfl rfl rfl (by decide +kernel)) (pi_tup (pe_ix ix_tup (pv 0) pe_int (fun _ _ => rfl))) (blkOk_by (own := [("_law_knot", 5)]) (N := ["_law_rows_here", "_law_names_here", "_law_name_here", "_law_marks", "_law_tie", "_law_knot", "_law_mark"]) (sc := d_L_rows.scope) (by decide +kernel)) (fun _ _ _ _ _ => (pg_name (i := 5) sc_L_rows.nd rfl (Or.inl rfl))) (fun _ _ _ _ _ => pts_nil) (fun _ _ _ _ _ => (pe_ix ix_key (pv 5) pe_int (fun _ _ => rfl))))
      (pss_cons (ps_if (PW.pt (pw_or (pt_cmpR (op_neSame hu) (pv 1) (pe_callB (n_sortS hu rfl) (by rfl) (W.free 33) (by decide +kernel) (pa_cons (pe_callTy (n_setS rfl) (by rfl) (W.free 34) (by decide +kernel) (pa_cons (pv 1) pa_nil)) pa_nil)) (nomark _)) (pw_or1 (pt_cmpR (op_neSame hu) (pe_callTy n_list (by rfl) (W.free 36) (by decide +kernel) (pa_cons (pe_ix ix_tup (pv 0) pe_int (fun _ _ => rfl)) pa_nil)) (pe_callB (n_sortK hu rfl) (by rfl) (W.free 33) (by decide +kernel) (pa_cons (pe_callTy (n_setK rfl hu) (by rfl) (W.free 34) (by decide +kernel) (pa_cons (pe_ix ix_tup (pv 0) pe_int (fun _ _ => rfl)) pa_nil)) pa_nil)) (nomark _)))))
        (pss_one (ps_ret pe_bl))
        pss_nil)
      (pss_cons (ps_for PassesOwn.never rfl (pi_tup (pe_ix ix_tup (pv 0) pe_int (fun _ _ => rfl))) (pg_tup rfl (pgs_cons (pg_name (i := 2) sc_L_rows.nd rfl (Or.inl rfl)) (pgs_cons (pg_name (i := 3) sc_L_rows.nd rfl (Or.inl rfl)) pgs_nil)))
        (pss_cons (ps_if (PW.pt (pw_or (pt_not (pt_val (pe_fn c_L_name (hr.mono (by omega)) (by rfl) (pa_cons (pv 2) pa_nil)))) (pw_or (pt_not (pt_val (pe_callB call_isTS (by rfl) (W.free 41) (by decide +kernel) (pa_cons (pv 3) (pa_cons (pe_bltn (v := .ty "tuple") (by rfl) (W.free 37) (by decide +kernel) rfl) pa_nil))))) (pw_or (pt_cmpR op_gt (pe_callB call_len (by rfl) (W.free 32) PySem.boot_len (pa_cons (pv 3) pa_nil)) pe_int (nomark _)) (pw_or1 (pt_cmpR (op_neSame hu) (pe_callTy n_list (by rfl) (W.free 36) (by decide +kernel) (pa_cons (pv 3) pa_nil)) (pe_callB (n_sortS hu rfl) (by rfl) (W.free 33) (by decide +kernel) (pa_cons (pe_callTy (n_setS rfl) (by rfl) (W.free 34) (by decide +kernel) (pa_cons (pv 3) pa_nil)) pa_nil)) (nomark _)))))))
          (pss_one (ps_ret pe_bl))
          pss_nil)
        (pss_one (ps_if (pt_cmpR (op_neSame hu) (pe_lc (own := [("_law_mark", 6)]) rfl sc_L_rows.nd (pi_tup (pv 3)) (blkOk_by (own := [("_law_mark", 6)]) (N := ["_law_rows_here", "_law_names_here", "_law_name_here", "_law_marks", "_law_tie", "_law_knot", "_law_mark"]) (sc := d_L_rows.scope) (by decide +kernel)) (fun _ _ _ _ _ => (pg_name (i := 6) sc_L_rows.nd rfl (Or.inl rfl))) (fun _ _ _ _ _ => (pts_one (pt_not (pt_val (pe_fn c_L_name (hr.mono (by omega)) (by rfl) (pa_cons (pv 6) pa_nil)))))) (fun _ _ _ _ _ => (pv 6))) (pe_lstN pa_nil) (nomark _))
          (pss_one (ps_ret pe_bl))
          pss_nil))))
      (pss_cons (ps_for PassesOwn.never rfl (pi_tup (pe_ix ix_tup (pv 0) pe_int (fun _ _ => rfl))) (pg_name (i := 4) sc_L_rows.nd rfl (Or.inl rfl))
        (pss_cons (ps_if (PW.pt (pw_or (pt_not (pt_val (pe_callB call_isTS (by rfl) (W.free 41) (by decide +kernel) (pa_cons (pv 4) (pa_cons (pe_bltn (v := .ty "tuple") (by rfl) (W.free 37) (by decide +kernel) rfl) pa_nil))))) (pw_or (pt_cmpR op_ne (pe_callB call_len (by rfl) (W.free 32) PySem.boot_len (pa_cons (pv 4) pa_nil)) pe_int (nomark _)) (pw_or1 (pt_not (pt_val (pe_fn c_L_name (hr.mono (by omega)) (by rfl) (pa_cons (pe_ix ix_key (pv 4) pe_int (fun _ _ => rfl)) pa_nil))))))))
          (pss_one (ps_ret pe_bl))
          pss_nil)
        (pss_one (ps_if (PW.pt (pw_or (pt_cmpR op_notInS (pe_ix ix_key (pv 4) pe_int (fun _ _ => rfl)) (pv 1) (by rfl)) (pw_or1 (pt_cmpR op_notInS (pe_ix ix_key (pv 4) pe_int (fun _ _ => rfl)) (pv 1) (by rfl)))))
          (pss_one (ps_ret pe_bl))
          pss_nil))))
      (pss_one (ps_ret pe_bl)))))))), ?_⟩
    have hkn : kl.length = t.length + 1 := by
      have := pkl.length_eq
      rw [List.length_map] at this
      rw [this]
      unfold knotsOf
      rw [List.length_map, List.length_range]
    have htn : tl.length = t.length := by
      have := ptl.length_eq
      rw [List.length_map] at this
      rw [this]
      unfold tiesOf
      rw [List.length_map, List.length_range]
    have h64 := ok.len
    have hnames : (kl.map (·.2.1)).Perm ((List.range (t.length + 1)).map knotF) := by
      have := pkl.map (·.1)
      rw [List.map_map] at this
      unfold knotsOf at this
      rw [List.map_map] at this
      exact this
    have ndn : (kl.map (·.2.1)).Nodup := hnames.nodup_iff.mpr (knots_nd (by omega))
    have nmn : ∀ x ∈ kl.map (·.2.1), nmOk x = true := fun x hx => by
      obtain ⟨i, hi, rfl⟩ := List.mem_map.mp (hnames.mem_iff.mp hx)
      rw [List.mem_range] at hi
      exact knot_nm (by omega)
    have ndt : (tl.map (·.2)).Nodup := ptl.nodup_iff.mpr (ties_nd h64)
    obtain ⟨nms, enms⟩ : ∃ nms, nms = kl.map (·.2.1) := ⟨_, rfl⟩
    rw [← enms] at ndn nmn wkl
    have hnl : nms.length = t.length + 1 := by rw [enms, List.length_map, hkn]
    have sqro : ∀ {Hx : Hp}, Same H Hx → SqT K Hx ro [.ref ka, .ref ta] := fun s => .inl (.inl (s _ _ ero))
    have sqka : ∀ {Hx : Hp}, Same H Hx → SqT K Hx ka (kl.map fun x => V.ref x.1) := fun s => .inl (.inr ⟨o, s _ _ eka⟩)
    have sqta : ∀ {Hx : Hp}, Same H Hx → SqT K Hx ta (tl.map fun x => V.ref x.1) := fun s => .inl (.inl (s _ _ eta))
    have S0 := Same.refl H
    refine ⟨.ref ro, rfl, .ref ro, .inl ⟨ro, _, rfl, sqro S0, rfl⟩, _, rfl, ?_⟩
    refine iteF ?_
    refine ⟨.ref ro, rfl, .ref ro, 2, rfl, .inr ⟨_, sqro S0, rfl⟩, rfl, _, rfl, iteNS rfl ?_⟩
    refine ⟨.ref ro, rfl, ro, _, 0, .ref ka, rfl, rfl, sqro S0, atI_nat (j := 0) rfl, .ref ka, .inl ⟨ka, _, rfl, sqka S0, rfl⟩, _, rfl, ?_⟩
    refine iteF ?_
    refine ⟨.ref ro, rfl, ro, _, 1, .ref ta, rfl, rfl, sqro S0, atI_nat (j := 1) rfl, .ref ta, .inl ⟨ta, _, rfl, sqta S0, rfl⟩, _, rfl, ?_⟩
    refine iteF ?_
    -- names
    refine ⟨.ref ro, rfl, ro, _, 0, .ref ka, rfl, rfl, sqro S0, atI_nat (j := 0) rfl, ka, rfl, ⟨_, sqka S0⟩, fun D nD => lc_tup (K := K) (a := ka) (xs := kl.map fun x => V.ref x.1) (fun i Hx => Same H Hx ∧ Hx D = some (.lst ((nms.take i).map V.str))) ⟨Same.new nD, upd_same⟩ (fun i Hx _ ⟨sx, _⟩ => sqka sx) ?_ ?_⟩
    · rintro i x Hx hi ⟨sx, eD⟩
      rw [List.getElem?_map] at hi
      cases ez : kl[i]? with
      | none => rw [ez] at hi; cases hi
      | some z =>
        rw [ez] at hi
        cases hi
        have en : nms[i]? = some z.2.1 := by rw [enms, List.getElem?_map, ez] <;> rfl
        refine ⟨rfl, lc_yes ?_⟩
        refine ⟨_, rfl, 0, _, _, rfl, (dkl z (List.mem_of_getElem? ez)).mono (Same.tps sx), rfl, fun u du => ?_⟩
        rw [du.text_inv]
        refine ⟨_, eD, ?_, But.same nD sx But.upd, ?_⟩
        · rw [List.length_map, List.length_take]
          exact small_lt (m := 100) (by omega) (by decide)
        · rw [upd_same, take_snoc en, List.map_append] <;> rfl
    rintro H1 ⟨s1, eD⟩
    rw [List.length_map, hkn, ← hnl, List.take_length] at eD
    -- the names and the ties in order
    have esn : sset nms = nms := sset_id ndn wkl
    refine ⟨.ref D, rfl, .ref D, rfl, D, nms, rfl, .inl (.inl (.inl eD)), by omega, fun S H2 s2 nS eS => ⟨S, _, rfl, eS, fun a H3 s3 na ea => ?_⟩⟩
    rw [esn] at ea
    have s13 := Same.trans s2 s3
    refine ⟨D, a, _, nms.map .text, rfl, rfl, .inl (.inl (s13 _ _ eD)), .inl (.inl ea), DnAll.texts.mpr rfl, by rw [depth_tx]; decide, okKs_texts nmn, _, rfl, ?_⟩
    refine iteF ?_
    have s03 := Same.trans s1 s13
    refine ⟨.ref ro, rfl, ro, _, 1, .ref ta, rfl, rfl, sqro s03, atI_nat (j := 1) rfl, ta, _, rfl, .inr (sqta s03), fun l H4 s4 nl el => ?_⟩
    have s04 := Same.trans s03 s4
    refine ⟨.ref ro, rfl, ro, _, 1, .ref ta, rfl, rfl, sqro s04, atI_nat (j := 1) rfl, ta, tl, rfl, sqta s04, fun p hp => s04 _ _ (dtl p hp), ndt, by omega, fun S2 H5 s5 nS2 eS2 => ?_⟩
    have s05 := Same.trans s04 s5
    have hne : ∀ p ∈ tl, p.2 ≠ [] := fun p hp z => by
      obtain ⟨i, _, e⟩ := tie_in (ptl.mem_iff.mp (List.mem_map_of_mem (f := fun x : Rw => x.2) hp))
      rw [z] at e
      unfold tieOf at e
      split at e <;> cases e
    refine ⟨S2, tl, rfl, eS2, fun p hp => ⟨s05 _ _ (dtl p hp), hne p hp⟩, ndt, fun b H6 s6 nb eb => ?_⟩
    rw [ple_sorted ndt wtl] at eb
    have s06 := Same.trans s05 s6
    have s46 := Same.trans s5 s6
    have dts : DnAll H6 (tl.map fun x => V.ref x.1) ((tl.map (·.2)).map tk) := by
      have := DnAll.of (H := H6) (l := tl.map pk) (fun b hb => by
        obtain ⟨x, hx, rfl⟩ := List.mem_map.mp hb
        exact dn_row (s06 _ _ (dtl x hx)))
      rw [List.map_map, List.map_map] at this
      rw [List.map_map]
      exact this
    have tnm : ∀ x ∈ tl.map (·.2), ∀ y ∈ x, nmOk y = true := fun x hx y hy => by
      obtain ⟨i, hi, e⟩ := tie_in (ptl.mem_iff.mp hx)
      rw [e] at hy
      unfold tieOf at hy
      split at hy <;> simp only [List.mem_cons, List.not_mem_nil, or_false] at hy <;> rcases hy with rfl | rfl | rfl
      · exact knot_nm (by omega)
      · exact (ok.st i hi).2
      · exact knot_nm (by omega)
      · exact knot_nm (by omega)
      · exact (ok.st i hi).2
      · exact knot_nm (by omega)
    refine ⟨l, b, _, _, rfl, rfl, .inl (.inl (s46 _ _ el)), .inl (.inl eb), dts, ?_, ?_, _, rfl, ?_⟩
    · refine depthAll_le fun k hk => ?_
      obtain ⟨x, _, rfl⟩ := List.mem_map.mp hk
      show NestedKey.depthAll (x.map .text) + 1 ≤ 60
      rw [depth_tx]
      decide
    · refine okKs_of fun k hk => ?_
      obtain ⟨x, hx, rfl⟩ := List.mem_map.mp hk
      simp only [tk, okK]
      exact okKs_texts (tnm x hx)
    refine iteF ?_
    have eD6 := s46 _ _ (s4 _ _ (s13 _ _ eD))
    -- the knots
    refine ⟨.ref ro, rfl, ro, _, 0, .ref ka, rfl, rfl, sqro s06, atI_nat (j := 0) rfl, ka, rfl, ⟨_, sqka s06⟩, for_tup (K := K) (a := ka) (xs := kl.map fun x => V.ref x.1) (fun i σ H' => ∃ (v2 v3 : Option V), σ = [some (.ref ro), some (.ref D), v2, v3, none, none, none] ∧ Same H6 H') ?_ ?_ ?_ ?_⟩
    · exact ⟨none, none, rfl, Same.refl _⟩
    · rintro i σ H7 hi ⟨v2, v3, rfl, s7⟩
      exact sqka (Same.trans s06 s7)
    · rintro i x σ H7 hi ⟨v2, v3, rfl, s7⟩
      rw [List.getElem?_map] at hi
      cases ez : kl[i]? with
      | none => rw [ez] at hi; cases hi
      | some z =>
        rw [ez] at hi
        cases hi
        have hzm := List.mem_of_getElem? ez
        have s07 := Same.trans s06 s7
        obtain ⟨xa, xs, exa, ex, dx⟩ := ((dkl z hzm).mono (Same.tps s07)).tup_inv
        cases exa
        obtain ⟨v1, r1, rfl, d1, dx⟩ := dx.cons_inv
        obtain ⟨mt, r2, rfl, d2, dx⟩ := dx.cons_inv
        rw [dx.nil_inv, d1.text_inv] at ex
        obtain ⟨ma, rfl, ema⟩ := tk_inv d2
        obtain ⟨ki, hki, ekz⟩ := knot_in (pkl.mem_iff.mp (List.mem_map_of_mem (f := fun x : Addr × Knot => x.2) hzm))
        obtain ⟨mok, mnd, mpw, ml5⟩ := ok.mrk ki hki
        have ez1 : z.2.1 = knotF ki := congrArg Prod.fst ekz
        have ez2 : z.2.2 = msk t m ki := congrArg Prod.snd ekz
        rw [ez2] at ema
        have esm : sset (msk t m ki) = msk t m ki := sset_id mnd mpw
        refine ⟨z.1, _, rfl, .inl (.inl ex), rfl, .str z.2.1, _, rfl, .ref ma, [], rfl, rfl, ?_⟩
        refine ⟨.str z.2.1, rfl, z.2.1, rfl, by rw [ez1]; exact knot_nm (by omega), fun H8 s8 => ⟨_, rfl, ?_⟩⟩
        refine iteF ?_
        have ema8 := s8 _ _ ema
        refine ⟨.ref ma, rfl, .ref ma, .inl ⟨ma, _, rfl, .inl (.inl ema8), rfl⟩, _, rfl, ?_⟩
        refine iteF ?_
        refine ⟨.ref ma, rfl, .ref ma, (msk t m ki).length, rfl, .inr ⟨_, .inl (.inl ema8), by rw [List.length_map]⟩, _, _, rfl, rfl, _, rfl, ?_⟩
        rw [decide_eq_false (show ¬ (((msk t m ki).length : Int) > 5) by omega)]
        refine iteF ?_
        refine ⟨.ref ma, rfl, ma, _, rfl, .inr (.inl (.inl ema8)), fun l9 H9 s9 nl9 el9 => ?_⟩
        refine ⟨.ref ma, rfl, ma, _, rfl, .inr (.inl (.inl (s9 _ _ ema8))), by omega, fun S9 H10 s10 nS9 eS9 => ⟨S9, _, rfl, eS9, fun a9 H11 s11 na9 ea9 => ?_⟩⟩
        rw [esm] at ea9
        refine ⟨l9, a9, _, (msk t m ki).map .text, rfl, rfl, .inl (.inl (s11 _ _ (s10 _ _ el9))), .inl (.inl ea9), DnAll.texts.mpr rfl, by rw [depth_tx]; decide, okKs_texts mok, _, rfl, ?_⟩
        refine iteF ?_
        have s811 := Same.trans (Same.trans s9 s10) s11
        have ema11 := s811 _ _ ema8
        refine ⟨.ref ma, rfl, ma, rfl, ⟨_, .inl (.inl ema11)⟩, fun D2 nD2 => lc_tup (K := K) (a := ma) (xs := (msk t m ki).map V.str) (fun j Hx => Same H11 Hx ∧ Hx D2 = some (.lst [])) ⟨Same.new nD2, upd_same⟩ (fun j Hx _ ⟨sx, _⟩ => .inl (.inl (sx _ _ ema11))) ?_ ?_⟩
        · rintro j y Hx hj ⟨sx, eD2⟩
          rw [List.getElem?_map] at hj
          cases ey : (msk t m ki)[j]? with
          | none => rw [ey] at hj; cases hj
          | some y' =>
            rw [ey] at hj
            cases hj
            refine ⟨rfl, .str y', rfl, y', rfl, mok y' (List.mem_of_getElem? ey), fun Hy sy => ⟨_, rfl, ?_⟩⟩
            refine iteF ?_
            exact ⟨Same.trans sx sy, sy _ _ eD2⟩
        · rintro Hx ⟨sx, eD2⟩
          refine ⟨Nat.zero_le _, fun e H12 s12 ne ee => ⟨D2, e, [], [], rfl, rfl, .inl (.inl (s12 _ _ eD2)), .inl (.inl ee), .nil, by decide, by simp only [okKs], _, rfl, ?_⟩⟩
          refine iteF ?_
          exact ⟨_, _, rfl, Same.trans s7 (Same.trans s8 (Same.trans s811 (Same.trans sx s12)))⟩
    -- the ties
    rintro σ H7 ⟨v2, v3, rfl, s7⟩
    have s07 := Same.trans s06 s7
    refine ⟨.ref ro, rfl, ro, _, 1, .ref ta, rfl, rfl, sqro s07, atI_nat (j := 1) rfl, ta, rfl, ⟨_, sqta s07⟩, for_tup (K := K) (a := ta) (xs := tl.map fun x => V.ref x.1) (fun i σ H' => ∃ (v4 : Option V), σ = [some (.ref ro), some (.ref D), v2, v3, v4, none, none] ∧ Same H7 H') ?_ ?_ ?_ ?_⟩
    · exact ⟨none, rfl, Same.refl _⟩
    · rintro i σ H8 hi ⟨v4, rfl, s8⟩
      exact sqta (Same.trans s07 s8)
    · rintro i x σ H8 hi ⟨v4, rfl, s8⟩
      rw [List.getElem?_map] at hi
      cases ez : tl[i]? with
      | none => rw [ez] at hi; cases hi
      | some z =>
        rw [ez] at hi
        cases hi
        have hzm := List.mem_of_getElem? ez
        have s08 := Same.trans s07 s8
        have eza := s08 _ _ (dtl z hzm)
        have hz2 := List.mem_map_of_mem (f := fun x : Rw => x.2) hzm
        obtain ⟨ki, hki, ekz⟩ := tie_in (ptl.mem_iff.mp hz2)
        obtain ⟨n1, wd, n2, e3, hwd, hn1, hn2⟩ : ∃ (n1 wd n2 : Str), z.2 = [n1, wd, n2] ∧ nmOk wd = true ∧ n1 ∈ nms ∧ n2 ∈ nms := by
          have mem : ∀ j, j ≤ t.length → knotF j ∈ nms := fun j hj => by
            rw [enms]
            exact hnames.mem_iff.mpr (List.mem_map_of_mem (List.mem_range.mpr (by omega)))
          have ekz : z.2 = tieOf t ki := ekz
          unfold tieOf at ekz
          split at ekz
          · exact ⟨_, _, _, ekz, (ok.st ki hki).2, mem ki (by omega), mem (ki + 1) (by omega)⟩
          · exact ⟨_, _, _, ekz, (ok.st ki hki).2, mem (ki + 1) (by omega), mem ki (by omega)⟩
        rw [e3] at eza
        have dz : Dn H8 (.ref z.1) (tk [n1, wd, n2]) := dn_row eza
        refine ⟨.ref z.1, rfl, .ref z.1, .inl ⟨z.1, _, rfl, .inl (.inl eza), rfl⟩, _, rfl, ?_⟩
        refine iteF ?_
        refine ⟨.ref z.1, rfl, .ref z.1, 3, rfl, .inr ⟨_, .inl (.inl eza), rfl⟩, rfl, _, rfl, iteNS rfl ?_⟩
        refine ⟨.ref z.1, rfl, 1, _, _, rfl, dz, rfl, fun u1 du1 => ?_⟩
        rw [du1.text_inv]
        refine ⟨wd, rfl, hwd, fun H9 s9 => ⟨_, rfl, ?_⟩⟩
        refine iteF ?_
        have eD9 := s9 _ _ (s8 _ _ (s7 _ _ eD6))
        refine ⟨.ref z.1, rfl, 0, _, _, rfl, dz.mono (Same.tps s9), rfl, fun u0 du0 => ⟨.ref D, rfl, n1, D, nms, du0.text_inv, rfl, .inl (.inl (.inl eD9)), _, rfl, ?_⟩⟩
        rw [decide_eq_true hn1]
        refine iteF ?_
        refine ⟨.ref z.1, rfl, 2, _, _, rfl, dz.mono (Same.tps s9), rfl, fun u2 du2 => ⟨.ref D, rfl, n2, D, nms, du2.text_inv, rfl, .inl (.inl (.inl eD9)), _, rfl, ?_⟩⟩
        rw [decide_eq_true hn2]
        refine iteF ?_
        exact ⟨_, rfl, Same.trans s8 s9⟩
    · rintro σ H8 ⟨v4, rfl, s8⟩
      exact q H8 (Same.trans s07 s8)
end
end Pk
namespace Pk
set_option autoImplicit false
set_option maxRecDepth 100000
set_option maxHeartbeats 4000000
open PySem PySem.Spec PyProof.Rows L2
theorem sc_L_line_by : FnScope ["_law_rows_here", "_law_way", "_law_marks", "_law_here", "_law_line", "_law_step", "_law_tie"] ["_law_rows_here", "_law_way"] d_L_line_by.scope := ⟨rfl, rfl, rfl, by decide +kernel, rfl, by decide +kernel, by decide +kernel⟩
theorem sc_L_parts : FnScope ["_law_one", "_law_other", "_law_rows_here", "_law_way", "_law_line"] ["_law_one", "_law_other", "_law_rows_here", "_law_way"] d_L_parts.scope := ⟨rfl, rfl, rfl, by decide +kernel, rfl, by decide +kernel, by decide +kernel⟩
def nDictT : List V → Hp → VK → Prop := fun xs H Q => ∃ (a : Addr) (o : Obj) (ps : List Addr) (kvs : List (Key × V)), xs = [.ref a] ∧ H a = some (.frz o (.tup (ps.map V.ref))) ∧ o.dict = none ∧ Paired (fun p kv => H p = some (.tup [kV kv.1, kv.2])) ps kvs ∧ ps.length ≤ 100000 ∧ Nw H (fun _ => .dK (mergeK [] kvs)) Q
theorem n_dictT {X : Cx} (hc : X.calm = true) : CallR X (.type "dict") nDictT := CallR.imp (call_dictT hc) fun vs H Q ⟨a, o, ps, kvs, b, c, d, e, f, g⟩ => ⟨a, o, ps, kvs, b, c, d, e, f, g.use⟩
theorem valV_out : ∀ {kvs : List (Key × V)} {k : Key}, k ∉ kvs.map (·.1) → valV kvs k = none := fun {kvs k} h => by
  unfold valV
  rw [Option.map_eq_none_iff, List.find?_eq_none]
  intro x hx e
  exact h (List.mem_map.mpr ⟨x, hx, of_decide_eq_true e⟩)
theorem merge_app : ∀ (kvs acc : List (Key × V)), ((acc ++ kvs).map (·.1)).Nodup → mergeK acc kvs = acc ++ kvs
  | [], acc, _ => by rw [List.append_nil] <;> rfl
  | kv :: kvs, acc, h => by
    show mergeK (putK acc kv.1 kv.2) kvs = _
    have hn : kv.1 ∉ acc.map (·.1) := by
      rw [List.map_append, List.map_cons] at h
      have := (List.nodup_append.mp h).2.2
      exact fun z => this _ z _ List.mem_cons_self rfl
    rw [putK_new _ (valV_out hn), merge_app kvs (acc ++ [(kv.1, kv.2)]) (by rw [List.append_assoc]; exact h), List.append_assoc] <;> rfl
theorem valV_mem : ∀ {kvs : List (Key × V)} {k : Key} {v : V}, (kvs.map (·.1)).Nodup → (k, v) ∈ kvs → valV kvs k = some v
  | [], _, _, _, h => by cases h
  | x :: kvs, k, v, nd, h => by
    rw [List.map_cons, List.nodup_cons] at nd
    unfold valV
    rcases List.mem_cons.mp h with rfl | h
    · rw [List.find?_cons_of_pos (by simp)] <;> rfl
    · have hne : ¬ x.1 = k := fun z => nd.1 (z ▸ List.mem_map_of_mem (f := fun x : Key × V => x.1) h)
      rw [List.find?_cons_of_neg (by simpa using hne)]
      exact valV_mem nd.2 h
theorem kl_paired {H : Hp} : ∀ {kl : List (Addr × Knot)}, (∀ x ∈ kl, Dn H (.ref x.1) (kkey x.2)) → ∃ kvs : List (Key × V), Paired (fun p kv => H p = some (.tup [kV kv.1, kv.2])) (kl.map (·.1)) kvs ∧ kvs.map (·.1) = kl.map (fun x => (Sum.inr x.2.1 : Key)) ∧ ∀ x ∈ kl, ∃ v, ((Sum.inr x.2.1 : Key), v) ∈ kvs ∧ Dn H v (tk x.2.2)
  | [], _ => ⟨[], .nil, rfl, fun x hx => (by cases hx)⟩
  | z :: kl, d => by
    obtain ⟨kvs, a, b, c⟩ := kl_paired fun x hx => d x (List.mem_cons_of_mem _ hx)
    obtain ⟨xa, xs, exa, ex, dx⟩ := (d z List.mem_cons_self).tup_inv
    cases exa
    obtain ⟨v1, r1, rfl, d1, dx⟩ := dx.cons_inv
    obtain ⟨mt, r2, rfl, d2, dx⟩ := dx.cons_inv
    rw [dx.nil_inv, d1.text_inv] at ex
    refine ⟨(Sum.inr z.2.1, mt) :: kvs, .cons ex a, by rw [List.map_cons, b] <;> rfl, fun x hx => ?_⟩
    rcases List.mem_cons.mp hx with rfl | hx
    · exact ⟨mt, List.mem_cons_self, d2⟩
    · obtain ⟨v, h1, h2⟩ := c x hx
      exact ⟨v, List.mem_cons_of_mem _ h1, h2⟩
theorem msk_take {t : Tr} {m : List Str} {i : Nat} (h : i ≤ t.length) : (t.map (·.1) ++ [m]).take (i + 1) = (t.map (·.1) ++ [m]).take i ++ [msk t m i] := by
  refine take_snoc ?_
  unfold msk
  rw [List.getD_eq_getElem?_getD]
  have hl : i < (t.map (·.1) ++ [m]).length := by rw [List.length_append, List.length_map]; simp; omega
  rw [List.getElem?_eq_getElem hl] <;> rfl
theorem step_take {t : Tr} {i : Nat} (h : i < t.length) : (t.map (·.2)).take (i + 1) = (t.map (·.2)).take i ++ [stepAt t i] := by
  refine take_snoc ?_
  unfold stepAt
  rw [List.getD_eq_getElem?_getD, List.getElem?_map, List.getElem?_eq_getElem h] <;> rfl
section
variable {P : Program} {w : World} {K : PySem.W.Frag} {mg : Str → Option Value} {base : Heap}
def sqLineBy : Sq := fun vs H Q => ∃ (ro : Addr) (wy : V) (t : Tr) (m : List Str), vs = [.ref ro, wy] ∧ WebR H ro wy t m ∧ WebOk t m ∧ ∀ (v : V) (H' : Hp), Same H H' → LineD H' v (t.map (·.1) ++ [m]) (t.map (·.2)) → v ≠ .non → Q v H'
theorem ok_L_line_by (W : Wd K mg) : Cl P w K mg base "_law_line_by" ["_law_rows_here", "_law_way"] 1 sqLineBy := by
  refine mk_cl W 35 25 (d := d_L_line_by) rfl rfl rfl rfl sc_L_line_by (fun _ _ _ _ _ _ us hl => match us, hl with | [_, _], _ => rfl) (fun vs H Q h => ?_) (fun f cdv A outer s H vs Q E hr h => ?_)
  · obtain ⟨ro, wy, t, m, rfl, _⟩ := h
    rfl
  · obtain ⟨ro, wy, t, m, rfl, ⟨ka, ta, o, kl, tl, ero, eka, od, dkl, pkl, wkl, eta, dtl, ptl, wtl, dwy⟩, ok, q⟩ := h
    have hu := hr.units
    have hu1 := hu_of hr
    refine ⟨_, (pss_cons (ps_set (i := 2) sc_L_line_by.nd rfl (Or.inl rfl) (pe_callTy (n_dictT rfl) (by rfl) (W.free 38) (by decide +kernel) (pa_cons (pe_ix ix_tup (pv 0) pe_int (fun _ _ => rfl)) pa_nil)))
      (pss_cons (ps_if (PW.pt (pw_or (pt_not (pt_val (pe_callB call_isTS (by rfl) (W.free 41) (by decide +kernel) (pa_cons (pv 1) (pa_cons (pe_bltn (v := .ty "tuple") (by rfl) (W.free 37) (by decide +kernel) rfl) pa_nil))))) (pw_or (pt_cmpR op_ne (pe_callB call_len (by rfl) (W.free 32) PySem.boot_len (pa_cons (pv 1) pa_nil)) pe_int (nomark _)) (pw_or (pt_cmp ((pc_dnotin hu1) (pe_ix ix_key (pv 1) pe_int (fun _ _ => rfl)) (pv 2))) (pw_or1 (pt_not (pt_val (pe_callB call_isTS (by rfl) (W.free 41) (by decide +kernel) (pa_cons (pe_ix ix_tup (pv 1) pe_int (fun _ _ => rfl)) (pa_cons (pe_bltn (v := .ty "tuple") (by rfl) (W.free 37) (by decide +kernel) rfl) pa_nil))))))))))
        (pss_one (ps_ret pe_non))
        pss_nil)
      (pss_cons (ps_set (i := 3) sc_L_line_by.nd rfl (Or.inl rfl) (pe_ix ix_key (pv 1) pe_int (fun _ _ => rfl)))
      (pss_cons (ps_set (i := 4) sc_L_line_by.nd rfl (Or.inl rfl) (pe_tupN (pa_cons (pe_lstN (pa_cons (pe_dget hu1 (pv 2) (pv 3) (fun _ _ => rfl)) pa_nil)) (pa_cons (pe_lstN pa_nil) pa_nil))))
      (pss_cons (ps_for PassesOwn.never rfl (pi_tup (pe_ix ix_tup (pv 1) pe_int (fun _ _ => rfl))) (pg_name (i := 5) sc_L_line_by.nd rfl (Or.inl rfl))
        (pss_cons (ps_if (PW.pt (pw_or (pt_not (pt_val (pe_callB call_isTS (by rfl) (W.free 41) (by decide +kernel) (pa_cons (pv 5) (pa_cons (pe_bltn (v := .ty "tuple") (by rfl) (W.free 37) (by decide +kernel) rfl) pa_nil))))) (pw_or1 (pt_cmpR op_ne (pe_callB call_len (by rfl) (W.free 32) PySem.boot_len (pa_cons (pv 5) pa_nil)) pe_int (nomark _)))))
          (pss_one (ps_ret pe_non))
          pss_nil)
        (pss_cons (ps_set (i := 6) sc_L_line_by.nd rfl (Or.inl rfl) (pe_ifExp (pt_cmpR op_eqT (pe_ix ix_key (pv 5) pe_int (fun _ _ => rfl)) pe_str (nomark _)) (pe_tupN (pa_cons (pv 3) (pa_cons (pe_ix ix_key (pv 5) pe_int (fun _ _ => rfl)) (pa_cons (pe_ix ix_key (pv 5) pe_int (fun _ _ => rfl)) pa_nil)))) (pe_tupN (pa_cons (pe_ix ix_key (pv 5) pe_int (fun _ _ => rfl)) (pa_cons (pe_ix ix_key (pv 5) pe_int (fun _ _ => rfl)) (pa_cons (pv 3) pa_nil))))))
        (pss_cons (ps_if (PW.pt (pw_or (pt_cmpR op_notInS (pe_ix ix_key (pv 5) pe_int (fun _ _ => rfl)) (pe_tupN (pa_cons pe_str (pa_cons pe_str pa_nil))) (by rfl)) (pw_or1 (pt_cmpR (op_notInT hu) (pv 6) (pe_ix ix_tup (pv 0) pe_int (fun _ _ => rfl)) (by rfl)))))
          (pss_one (ps_ret pe_non))
          pss_nil)
        (pss_cons (ps_set (i := 3) sc_L_line_by.nd rfl (Or.inl rfl) (pe_ix ix_key (pv 5) pe_int (fun _ _ => rfl)))
        (pss_cons (ps_expr (pe_bm PySem.F.plainAttrs_list PySem.F.slot_list_append PySem.F.type_list_append mt_append (pe_ix ix_tup (pv 4) pe_int (fun _ _ => rfl)) (pa_cons (pe_dget hu1 (pv 2) (pv 3) (fun _ _ => rfl)) pa_nil)))
        (pss_one (ps_expr (pe_bm PySem.F.plainAttrs_list PySem.F.slot_list_append PySem.F.type_list_append mt_append (pe_ix ix_tup (pv 4) pe_int (fun _ _ => rfl)) (pa_cons (pe_tupN (pa_cons (pe_ix ix_key (pv 5) pe_int (fun _ _ => rfl)) (pa_cons (pe_ix ix_key (pv 5) pe_int (fun _ _ => rfl)) pa_nil))) pa_nil))))))))))
      (pss_one (ps_ret (pv 4)))))))), ?_⟩
    have h64 := ok.len
    have hkn : kl.length = t.length + 1 := by
      have := pkl.length_eq
      rw [List.length_map] at this
      rw [this]
      unfold knotsOf
      rw [List.length_map, List.length_range]
    have hnames : (kl.map (·.2.1)).Perm ((List.range (t.length + 1)).map knotF) := by
      have := pkl.map (·.1)
      rw [List.map_map] at this
      unfold knotsOf at this
      rw [List.map_map] at this
      exact this
    have ndn : (kl.map (·.2.1)).Nodup := hnames.nodup_iff.mpr (knots_nd (by omega))
    obtain ⟨kvs, pk1, pk2, pk3⟩ := kl_paired dkl
    have ndk : (kvs.map (·.1)).Nodup := by
      rw [pk2]
      have : kl.map (fun x => (Sum.inr x.2.1 : Key)) = (kl.map (·.2.1)).map Sum.inr := by rw [List.map_map] <;> rfl
      rw [this]
      exact List.Pairwise.map Sum.inr (fun a b h e => h (Sum.inr.inj e)) ndn
    have emg : mergeK [] kvs = kvs := merge_app kvs [] (by rw [List.nil_append]; exact ndk)
    have look : ∀ j, j ≤ t.length → ∃ v, valV kvs (Sum.inr (knotF j) : Key) = some v ∧ Dn H v (tk (msk t m j)) := fun j hj => by
      have hk : (knotF j, msk t m j) ∈ knotsOf t m := List.mem_map.mpr ⟨j, List.mem_range.mpr (by omega), rfl⟩
      obtain ⟨x, hx, ex⟩ := List.mem_map.mp (pkl.mem_iff.mpr hk)
      obtain ⟨v, h1, h2⟩ := pk3 x hx
      have e1 : x.2.1 = knotF j := congrArg Prod.fst ex
      have e2 : x.2.2 = msk t m j := congrArg Prod.snd ex
      rw [e1] at h1
      rw [e2] at h2
      exact ⟨v, valV_mem ndk h1, h2⟩
    have sqro : SqT K H ro [.ref ka, .ref ta] := .inl (.inl ero)
    obtain ⟨wa, ws, rfl, ewa, dws⟩ := dwy.tup_inv
    obtain ⟨w0, ws1, rfl, d0, dws⟩ := dws.cons_inv
    obtain ⟨w1, ws2, rfl, d1, dws⟩ := dws.cons_inv
    rw [dws.nil_inv, d0.text_inv] at ewa
    obtain ⟨sa, svs, rfl, esa, dsv⟩ := d1.tup_inv
    have hsl : svs.length = t.length := by rw [dsv.length, List.length_map, List.length_range]
    refine ⟨.ref ro, rfl, ro, _, 0, .ref ka, rfl, rfl, sqro, atI_nat (j := 0) rfl, ka, o, kl.map (·.1), kvs, rfl, by rw [eka, List.map_map] <;> rfl, od, pk1, by rw [List.length_map]; omega, fun d H1 s1 nd ed => ?_⟩
    have ed : H1 d = some (.dK kvs) := by rw [ed, emg]
    have dg : ∀ {Hx : Hp} (j : Nat) (v : V), Hx d = some (.dK kvs) → valV kvs (Sum.inr (knotF j) : Key) = some v → DGet Hx d (.str (knotF j)) (some v) := fun j v h e => e ▸ DGet.k (k := (Sum.inr (knotF j) : Key)) h
    have ewa1 := s1 _ _ ewa
    have dwy1 := dwy.mono (Same.tps s1)
    obtain ⟨v0, ev0, dv0⟩ := look 0 (Nat.zero_le _)
    refine ⟨.ref wa, rfl, .ref wa, .inl ⟨wa, _, rfl, .inl (.inl ewa1), rfl⟩, _, rfl, ?_⟩
    refine iteF ?_
    refine ⟨.ref wa, rfl, .ref wa, 2, rfl, .inr ⟨_, .inl (.inl ewa1), rfl⟩, rfl, _, rfl, iteNS rfl ?_⟩
    refine ⟨.ref wa, rfl, 0, _, _, rfl, dwy1, rfl, fun u0 du0 => ?_⟩
    rw [du0.text_inv]
    refine ⟨.ref d, rfl, d, _, rfl, dg 0 v0 ed ev0, _, rfl, ?_⟩
    refine iteF ?_
    refine ⟨.ref wa, rfl, wa, _, 1, .ref sa, rfl, rfl, .inl (.inl ewa1), atI_nat (j := 1) rfl, .ref sa, .inl ⟨sa, _, rfl, .inl (.inl (s1 _ _ esa)), rfl⟩, _, rfl, ?_⟩
    refine iteF ?_
    refine ⟨.ref wa, rfl, 0, _, _, rfl, dwy1, rfl, fun u2 du2 => ?_⟩
    rw [du2.text_inv]
    refine ⟨.ref d, rfl, .str (knotF 0), rfl, d, v0, rfl, dg 0 v0 ed ev0, by show 1 ≤ 1000; decide, fun ml H2 s2 nml eml => ⟨Nat.zero_le _, fun sl H3 s3 nsl esl => ⟨by show 2 ≤ 1000; decide, fun la H4 s4 nla ela => ?_⟩⟩⟩
    have s14 := Same.trans (Same.trans s2 s3) s4
    have s04 := Same.trans s1 s14
    have eml4 := s4 _ _ (s3 _ _ eml)
    have esl4 := s4 _ _ esl
    have nms : ml ≠ sl := ne_of_none eml nsl
    have ndm : ml ≠ d := (ne_of_none ed nml).symm
    have nds : sl ≠ d := (ne_of_none (s2 _ _ ed) nsl).symm
    have nml1 : H1 ml = none := nml
    have nsl1 : H1 sl = none := Same.free s2 nsl
    have sqsa : ∀ {Hx : Hp}, Same H Hx → SqT K Hx sa svs := fun s => .inl (.inl (s _ _ esa))
    refine ⟨.ref wa, rfl, wa, _, 1, .ref sa, rfl, rfl, .inl (.inl (s14 _ _ ewa1)), atI_nat (j := 1) rfl, ?_⟩
    refine ⟨sa, rfl, ⟨svs, sqsa s04⟩, for_tup (K := K) (a := sa) (xs := svs) (fun i σ H' => ∃ (v5 v6 : Option V) (mvs lvs : List V), σ = [some (.ref ro), some (.ref wa), some (.ref d), some (.str (knotF i)), some (.ref la), v5, v6] ∧ Same H1 H' ∧ H' la = some (.tup [.ref ml, .ref sl]) ∧ H' ml = some (.lst mvs) ∧ DnAll H' mvs (((t.map (·.1) ++ [m]).take (i + 1)).map tk) ∧ H' sl = some (.lst lvs) ∧ DnAll H' lvs (((t.map (·.2)).take i).map skey)) ?_ ?_ ?_ ?_⟩
    · refine ⟨none, none, [v0], [], rfl, s14, ela, eml4, ?_, esl4, .nil⟩
      rw [msk_take (Nat.zero_le _)]
      exact .cons (dv0.mono (Same.tps s04)) .nil
    · rintro i σ H5 hi ⟨v5, v6, mvs, lvs, rfl, s5, _⟩
      exact sqsa (Same.trans s1 s5)
    · rintro i x σ H5 hi ⟨v5, v6, mvs, lvs, rfl, s5, ela5, eml5, dml5, esl5, dsl5⟩
      have hil : i < t.length := by rw [← hsl]; exact (List.getElem?_eq_some_iff.mp hi).1
      have s05 := Same.trans s1 s5
      obtain ⟨kk, ekk, dkk⟩ := (dsv.mono (Same.tps s05)).getV hi
      have ekk : kk = stepKey t i := by
        rw [List.getElem?_map, List.getElem?_eq_getElem (by rw [List.length_range]; exact hil)] at ekk
        rw [List.getElem_range] at ekk
        exact (Option.some.inj ekk).symm
      subst ekk
      obtain ⟨hside, hwnm⟩ := ok.st i hil
      obtain ⟨xa, xs, rfl, exa, dxs⟩ := id dkk.tup_inv
      have hx3 : xs.length = 3 := by rw [dxs.length] <;> rfl
      have dkx : Dn H5 (.ref xa) (.tup [.text (stepAt t i).1, .text (stepAt t i).2, .text (knotF (i + 1))]) := dkk
      refine ⟨.ref xa, rfl, .ref xa, .inl ⟨xa, _, rfl, .inl (.inl exa), rfl⟩, _, rfl, ?_⟩
      refine iteF ?_
      refine ⟨.ref xa, rfl, .ref xa, 3, rfl, .inr ⟨_, .inl (.inl exa), hx3.symm⟩, rfl, _, rfl, iteNS rfl ?_⟩
      dsimp only [tNext]
      refine mergeS (fun σ' H' => ∃ (ti : Addr), σ' = [some (.ref ro), some (.ref wa), some (.ref d), some (.str (knotF i)), some (.ref la), some (.ref xa), some (.ref ti)] ∧ Same H5 H' ∧ H' ti = some (.tup ((tieOf t i).map V.str))) (fun nx hnx => ?_) ?_
      · refine ⟨.ref xa, rfl, 0, _, _, rfl, dkx, rfl, fun y0 dy0 => ⟨_, "on", dy0.text_inv, rfl, _, rfl, ?_⟩⟩
        refine ite2 (fun hon => ?_) (fun hon => ?_)
        · have hon : (stepAt t i).1 = "on" := of_decide_eq_true hon
          refine ⟨_, rfl, .ref xa, rfl, 1, _, _, rfl, dkx, rfl, fun y1 dy1 => ⟨.ref xa, rfl, 2, _, _, rfl, dkx, rfl, fun y2 dy2 => ⟨by show 3 ≤ 1000; decide, fun ti H6 s6 nti eti => ?_⟩⟩⟩
          rw [dy1.text_inv, dy2.text_inv] at eti
          refine hnx _ _ ⟨ti, rfl, s6, ?_⟩
          unfold tieOf
          rw [if_pos hon]
          exact eti
        · have hon : ¬ (stepAt t i).1 = "on" := fun z => hon (decide_eq_true z)
          refine ⟨.ref xa, rfl, 2, _, _, rfl, dkx, rfl, fun y2 dy2 => ⟨.ref xa, rfl, 1, _, _, rfl, dkx, rfl, fun y1 dy1 => ⟨_, rfl, by show 3 ≤ 1000; decide, fun ti H6 s6 nti eti => ?_⟩⟩⟩
          rw [dy1.text_inv, dy2.text_inv] at eti
          refine hnx _ _ ⟨ti, rfl, s6, ?_⟩
          unfold tieOf
          rw [if_neg hon]
          exact eti
      rintro σ' H6 ⟨ti, rfl, s6, eti⟩
      have s06 := Same.trans s05 s6
      have dkx6 := dkx.mono (Same.tps s6)
      refine ⟨.ref xa, rfl, 0, _, _, rfl, dkx6, rfl, fun y0 dy0 => ⟨by show 2 ≤ 1000; decide, fun tt H7 s7 ntt ett => ⟨(stepAt t i).1, tt, ["on", "back"], dy0.text_inv, rfl, .inr (.inl (.inl ett)), _, rfl, ?_⟩⟩⟩
      have hin : (stepAt t i).1 ∈ [("on" : Str), "back"] := by rcases hside with h | h <;> rw [h] <;> simp
      rw [decide_eq_true hin]
      refine iteF ?_
      have s07 := Same.trans s06 s7
      have dts : DnAll H7 (tl.map fun x => V.ref x.1) ((tl.map (·.2)).map tk) := by
        have := DnAll.of (H := H7) (l := tl.map pk) (fun b hb => by
          obtain ⟨x, hx, rfl⟩ := List.mem_map.mp hb
          exact dn_row (s07 _ _ (dtl x hx)))
        rw [List.map_map, List.map_map] at this
        rw [List.map_map]
        exact this
      have tnm : ∀ x ∈ tiesOf t, ∀ y ∈ x, nmOk y = true := fun x hx y hy => by
        obtain ⟨i, hi, e⟩ := tie_in hx
        rw [e] at hy
        unfold tieOf at hy
        split at hy <;> simp only [List.mem_cons, List.not_mem_nil, or_false] at hy <;> rcases hy with rfl | rfl | rfl
        · exact knot_nm (by omega)
        · exact (ok.st i hi).2
        · exact knot_nm (by omega)
        · exact knot_nm (by omega)
        · exact (ok.st i hi).2
        · exact knot_nm (by omega)
      have htie : tieOf t i ∈ tiesOf t := List.mem_map_of_mem (List.mem_range.mpr hil)
      refine ⟨.ref ti, rfl, .ref ro, rfl, ro, _, 1, .ref ta, rfl, rfl, .inl (.inl (s07 _ _ ero)), atI_nat (j := 1) rfl, ta, _, _, tk (tieOf t i), rfl, .inl (.inl (s07 _ _ eta)), dts, dn_row (s7 _ _ eti), ?_, ?_, ?_, ?_, List.mem_map_of_mem (ptl.mem_iff.mpr htie), _, rfl, ?_⟩
      · show NestedKey.depthAll ((tieOf t i).map .text) + 1 ≤ 60
        rw [depth_tx]
        decide
      · refine depthAll_le fun k hk => ?_
        obtain ⟨x, _, rfl⟩ := List.mem_map.mp hk
        show NestedKey.depthAll (x.map .text) + 1 ≤ 60
        rw [depth_tx]
        decide
      · refine okKs_of fun k hk => ?_
        obtain ⟨x, hx, rfl⟩ := List.mem_map.mp hk
        simp only [tk, okK]
        exact okKs_texts (tnm x (ptl.mem_iff.mp hx))
      · simp only [tk, okK]
        exact okKs_texts (tnm _ htie)
      refine iteF ?_
      have s57 := Same.trans s6 s7
      have dkx7 := dkx.mono (Same.tps s57)
      refine ⟨.ref xa, rfl, 2, _, _, rfl, dkx7, rfl, fun y2 dy2 => ?_⟩
      rw [dy2.text_inv]
      obtain ⟨vi, evi, dvi⟩ := look (i + 1) (by omega)
      have ed7 := s57 _ _ (s5 _ _ ed)
      have ela7 := s57 _ _ ela5
      have eml7 := s57 _ _ eml5
      have esl7 := s57 _ _ esl5
      have hml : mvs.length ≤ 100 := by
        rw [dml5.length, List.length_map, List.length_take]
        omega
      have hsl5 : lvs.length ≤ 100 := by
        rw [dsl5.length, List.length_map, List.length_take]
        omega
      refine ⟨.ref la, rfl, la, _, 0, .ref ml, rfl, rfl, .inl (.inl ela7), atI_nat (j := 0) rfl, .inl ⟨rfl, _, .inl (.inl eml7)⟩, .ref d, rfl, _, rfl, d, vi, rfl, dg (i + 1) vi ed7 evi, ml, mvs, vi, rfl, rfl, eml7, small_lt hml (by decide), ?_⟩
      have t8 : Tps H7 (upd H7 ml (.lst (mvs ++ [vi]))) := Tps.mut eml7 (by intro xs z; cases z)
      obtain ⟨H8, e8⟩ : ∃ H8, H8 = upd H7 ml (.lst (mvs ++ [vi])) := ⟨_, rfl⟩
      rw [← e8] at t8 ⊢
      have at8 : ∀ b, b ≠ ml → H8 b = H7 b := fun b h => by rw [e8, upd_ne h]
      have ela8 : H8 la = some (.tup [.ref ml, .ref sl]) := t8 _ _ ela7
      have esl8 : H8 sl = some (.lst lvs) := by rw [at8 sl nms.symm]; exact esl7
      have eml8 : H8 ml = some (.lst (mvs ++ [vi])) := by rw [e8, upd_same]
      have s18 : Same H1 H8 := by rw [e8]; exact But.same nml1 (Same.trans s5 s57) But.upd
      have dkx8 := dkx7.mono t8
      refine ⟨.ref la, rfl, la, _, 1, .ref sl, rfl, rfl, .inl (.inl ela8), atI_nat (j := 1) rfl, .inl ⟨rfl, _, .inl (.inl esl8)⟩, .ref xa, rfl, 0, _, _, rfl, dkx8, rfl, fun z0 dz0 => ⟨.ref xa, rfl, 1, _, _, rfl, dkx8, rfl, fun z1 dz1 => ⟨by show 2 ≤ 1000; decide, fun st H9 s9 nst est => ?_⟩⟩⟩
      rw [dz0.text_inv, dz1.text_inv] at est
      have esl9 := s9 _ _ esl8
      have eml9 := s9 _ _ eml8
      refine ⟨sl, lvs, .ref st, rfl, rfl, esl9, small_lt hsl5 (by decide), ?_⟩
      have t10 : Tps H9 (upd H9 sl (.lst (lvs ++ [.ref st]))) := Tps.mut esl9 (by intro xs z; cases z)
      have tall : Tps H5 (upd H9 sl (.lst (lvs ++ [.ref st]))) := (((Same.tps s57).trans t8).trans (Same.tps s9)).trans t10
      refine ⟨_, _, mvs ++ [vi], lvs ++ [.ref st], rfl, But.same nsl1 (Same.trans s18 s9) But.upd, tall _ _ ela5, by rw [upd_ne nms]; exact eml9, ?_, upd_same, ?_⟩
      · rw [msk_take (show i + 1 ≤ t.length by omega), List.map_append]
        exact (dml5.mono tall).append (.cons (((dvi.mono (Same.tps s05)).mono tall)) .nil)
      · rw [step_take hil, List.map_append]
        exact (dsl5.mono tall).append (.cons (.tup (t10 _ _ est) (.cons (.text _) (.cons (.text _) .nil))) .nil)
    · rintro σ H5 ⟨v5, v6, mvs, lvs, rfl, s5, ela5, eml5, dml5, esl5, dsl5⟩
      rw [hsl] at dml5 dsl5
      have e1 : (t.map (·.1) ++ [m]).take (t.length + 1) = t.map (·.1) ++ [m] := List.take_of_length_le (by rw [List.length_append, List.length_map] <;> simp)
      have e2 : (t.map (·.2)).take t.length = t.map (·.2) := List.take_of_length_le (by rw [List.length_map]; exact Nat.le_refl _)
      rw [e1] at dml5
      rw [e2] at dsl5
      exact ⟨.ref la, rfl, q (.ref la) H5 (Same.trans s1 s5) ⟨⟨la, ml, sl, mvs, lvs, rfl, ela5, eml5, dml5, esl5, dsl5⟩, by rw [List.length_append, List.length_map, List.length_map] <;> rfl, by rw [List.length_map]; exact h64⟩ (by intro z; cases z)⟩
def sqParts : Sq := fun vs H Q => ∃ (v u : V) (ro : Addr) (wy : V) (p r : Pat) (t : Tr) (m : List Str), vs = [v, u, .ref ro, wy] ∧ Dn H v (pkey p) ∧ Dn H u (pkey r) ∧ sz p ≤ 8 ∧ sz r ≤ 8 ∧ WebR H ro wy t m ∧ WebOk t m ∧ Fit (lineOf t m) p 0 t.length ∧ ¬ Fit (lineOf t m) r 0 t.length ∧ ∀ H', Same H H' → Q (.bl true) H'
theorem ok_L_parts (W : Wd K mg) : Cl P w K mg base "_law_parts" ["_law_one", "_law_other", "_law_rows_here", "_law_way"] 11 sqParts := by
  refine mk_cl W 38 28 (d := d_L_parts) rfl rfl rfl rfl sc_L_parts (fun _ _ _ _ _ _ us hl => match us, hl with | [_, _, _, _], _ => rfl) (fun vs H Q h => ?_) (fun f cdv A outer s H vs Q E hr h => ?_)
  · obtain ⟨v, u, ro, wy, p, r, t, m, rfl, _⟩ := h
    rfl
  · obtain ⟨v, u, ro, wy, p, r, t, m, rfl, hp, hq, zp, zr, wr, ok, f1, f2, q⟩ := h
    have c_L_rows : Cl P w K mg base "_law_rows" ["_law_rows_here"] 2 sqRows := ok_L_rows W
    have c_L_line_by : Cl P w K mg base "_law_line_by" ["_law_rows_here", "_law_way"] 1 sqLineBy := ok_L_line_by W
    have c_L_right : Cl P w K mg base "_law_right" ["_law_pattern_here", "_law_line"] 10 sqRight := ok_L_right W
    refine ⟨_, (pss_cons (ps_if (pt_not (pt_val (pe_fn c_L_rows (hr.mono (by omega)) (by rfl) (pa_cons (pv 2) pa_nil))))
        (pss_one (ps_ret pe_bl))
        pss_nil)
      (pss_cons (ps_set (i := 4) sc_L_parts.nd rfl (Or.inl rfl) (pe_fn c_L_line_by (hr.mono (by omega)) (by rfl) (pa_cons (pv 2) (pa_cons (pv 3) pa_nil))))
      (pss_one (ps_ret (pe_and (pe_cmpR op_notN (pv 4) pe_non (nomark _)) (pe_and (pe_fn c_L_right (hr.mono (by omega)) (by rfl) (pa_cons (pv 0) (pa_cons (pv 4) pa_nil))) (pe_one (pe_not (pe_fn c_L_right (hr.mono (by omega)) (by rfl) (pa_cons (pv 1) (pa_cons (pv 4) pa_nil))))))))))), ?_⟩
    refine ⟨.ref ro, rfl, ro, wy, t, m, rfl, wr, ok, fun H1 s1 => ⟨_, rfl, ?_⟩⟩
    refine iteF ?_
    refine ⟨.ref ro, rfl, wy, rfl, ro, wy, t, m, rfl, wr.keep s1, ok, fun lv H2 s2 LD hnn => ?_⟩
    have s02 := Same.trans s1 s2
    refine ⟨lv, rfl, rfl, _, rfl, ?_⟩
    rw [decide_eq_false hnn]
    refine iteT ?_
    rw [lineOf_eq] at f1 f2
    have hl : (t.map (·.2)).length = t.length := List.length_map _
    refine ⟨v, rfl, lv, rfl, v, lv, p, _, _, rfl, zp, hp.mono (Same.tps s02), LD, fun b H3 s3 hb => ⟨_, rfl, ?_⟩⟩
    rw [hl] at hb
    have hb1 : b = true := hb.mpr f1
    subst hb1
    refine iteT ?_
    have s03 := Same.trans s02 s3
    refine ⟨u, rfl, lv, rfl, u, lv, r, _, _, rfl, zr, hq.mono (Same.tps s03), LD.keep s3, fun b H4 s4 hb => ⟨_, rfl, ?_⟩⟩
    rw [hl] at hb
    cases b with
    | true => exact absurd (hb.mp rfl) f2
    | false => exact q H4 (Same.trans s03 s4)
end
end Pk
namespace Pk
set_option autoImplicit false
set_option maxRecDepth 100000
set_option maxHeartbeats 4000000
open PySem PySem.Spec PyProof.Rows L2
theorem sc_L_lines : FnScope ["_law_asked_here", "_law_most", "_law_found", "_law_last", "_law_k", "_law_wider", "_law_line", "_law_step", "_law_marks"] ["_law_asked_here", "_law_most"] d_L_lines.scope := ⟨rfl, rfl, rfl, by decide +kernel, rfl, by decide +kernel, by decide +kernel⟩
/-- a heap without one object -/
def rm (a : Addr) (H : Hp) : Hp := fun b => if b = a then none else H b
theorem rm_at {a b : Addr} {H : Hp} (h : b ≠ a) : rm a H b = H b := if_neg h
theorem rm_sub (a : Addr) (H : Hp) : Same (rm a H) H := fun b o h => by
  unfold rm at h
  split at h
  · cases h
  · exact h
theorem rm_mono {a : Addr} {H H' : Hp} (s : Same H H') : Same (rm a H) (rm a H') := fun b o h => by
  unfold rm at h ⊢
  split at h
  · cases h
  · rename_i hb
    rw [if_neg hb]
    exact s b o h
theorem rm_but {a : Addr} {H H' : Hp} (s : But a H H') : Same (rm a H) (rm a H') := fun b o h => by
  unfold rm at h ⊢
  split at h
  · cases h
  · rename_i hb
    rw [if_neg hb]
    exact s b o h hb
/-- lines of these sets and steps -/
def AllLn (sets : List (List Str)) (stps : List (Str × Str)) (n : Nat) (H : Hp) (vs : List V) : Prop := ∀ v ∈ vs, ∃ mss steps, LineD H v mss steps ∧ (∀ x ∈ mss, x ∈ sets) ∧ (∀ s ∈ steps, s ∈ stps) ∧ steps.length ≤ n
theorem AllLn.keep {sets : List (List Str)} {stps : List (Str × Str)} {n n' : Nat} {H H' : Hp} {vs : List V} (a : AllLn sets stps n H vs) (s : Same H H') (h : n ≤ n') : AllLn sets stps n' H' vs := fun v hv => by
  obtain ⟨mss, steps, l, h1, h2, h3⟩ := a v hv
  exact ⟨mss, steps, l.keep s, h1, h2, by omega⟩
theorem AllLn.append {sets : List (List Str)} {stps : List (Str × Str)} {n : Nat} {H : Hp} {vs us : List V} (a : AllLn sets stps n H vs) (b : AllLn sets stps n H us) : AllLn sets stps n H (vs ++ us) := fun v hv => (List.mem_append.mp hv).elim (a v) (b v)
section
variable {P : Program} {w : World} {K : PySem.W.Frag} {mg : Str → Option Value} {base : Heap}
def sqLines : Sq := fun vs H Q => ∃ (ta sa st : Addr) (sets : List (List Str)) (stps : List (Str × Str)), vs = [.ref ta, vn 3] ∧ H ta = some (.tup [.ref sa, .ref st]) ∧ Lk H sa (sets.map tk) ∧ Lk H st (stps.map skey) ∧ sets.length ≤ 64 ∧ stps.length ≤ 100 ∧
  ∀ (a : Addr) (vs : List V) (H' : Hp), Same H H' → H' a = some (.lst vs) → AllLn sets stps 3 H' vs → Q (.ref a) H'
theorem ok_L_lines (W : Wd K mg) : Cl P w K mg base "_law_lines" ["_law_asked_here", "_law_most"] 1 sqLines := by
  refine mk_cl W 40 30 (d := d_L_lines) rfl rfl rfl rfl sc_L_lines (fun _ _ _ _ _ _ us hl => match us, hl with | [_, _], _ => rfl) (fun vs H Q h => ?_) (fun f cdv A outer s H vs Q E hr h => ?_)
  · obtain ⟨ta, sa, st, sets, stps, rfl, _⟩ := h
    rfl
  · obtain ⟨ta, sa, st, sets, stps, rfl, eta, ⟨sv, esa, dsa⟩, ⟨tv, est, dst⟩, hsl, htl, q⟩ := h
    have hsv : sv.length = sets.length := by rw [dsa.length, List.length_map]
    have htv : tv.length = stps.length := by rw [dst.length, List.length_map]
    refine ⟨_, (pss_cons (ps_setLc (i := 2) (own := [("_law_marks", 8)]) rfl sc_L_lines.nd rfl rfl (sw_true rfl rfl rfl (by decide +kernel)) (pi_list (pe_ix ix_tup (pv 0) pe_int (fun _ _ => rfl))) (blkOk_by (own := [("_law_marks", 8)]) (N := ["_law_asked_here", "_law_most", "_law_found", "_law_last", "_law_k", "_law_wider", "_law_line", "_law_step", "_law_marks"]) (sc := d_L_lines.scope) (by decide +kernel)) (fun _ _ _ _ _ => (pg_name (i := 8) sc_L_lines.nd rfl (Or.inl rfl))) (fun _ _ _ _ _ => pts_nil) (fun _ _ _ _ _ => (pe_tupN (pa_cons (pe_lstN (pa_cons (pv 8) pa_nil)) (pa_cons (pe_lstN pa_nil) pa_nil)))))
      (pss_cons (ps_set (i := 3) sc_L_lines.nd rfl (Or.inl rfl) (pv 2))
      (pss_cons (ps_for PassesOwn.never rfl (pi_range1 (by rfl) (W.free 35) (pa_cons (pv 1) pa_nil)) (pg_name (i := 4) sc_L_lines.nd rfl (Or.inl rfl))
        (pss_cons (ps_set (i := 5) sc_L_lines.nd rfl (Or.inl rfl) (pe_lstN pa_nil))
        (pss_cons (ps_if (pt_cmpR op_lt (pe_op op_mul (pe_op op_mul (pe_callB call_len (by rfl) (W.free 32) PySem.boot_len (pa_cons (pv 3) pa_nil)) (pe_callB call_len (by rfl) (W.free 32) PySem.boot_len (pa_cons (pe_ix ix_tup (pv 0) pe_int (fun _ _ => rfl)) pa_nil))) (pe_callB call_len (by rfl) (W.free 32) PySem.boot_len (pa_cons (pe_ix ix_tup (pv 0) pe_int (fun _ _ => rfl)) pa_nil))) pe_int (nomark _))
          (pss_one (ps_for PassesOwn.never rfl (pi_list (pv 3)) (pg_name (i := 6) sc_L_lines.nd rfl (Or.inr rfl))
            (pss_one (ps_for PassesOwn.never rfl (pi_list (pe_ix ix_tup (pv 0) pe_int (fun _ _ => rfl))) (pg_name (i := 7) sc_L_lines.nd rfl (Or.inr rfl))
              (pss_one (ps_expr (pe_bm PySem.F.plainAttrs_list PySem.F.slot_list_extend PySem.F.type_list_extend mt_extend (pv 5) (pa_cons (pe_lc (own := [("_law_marks", 8)]) rfl sc_L_lines.nd (pi_list (pe_ix ix_tup (pv 0) pe_int (fun _ _ => rfl))) (blkOk_by (own := [("_law_marks", 8)]) (N := ["_law_asked_here", "_law_most", "_law_found", "_law_last", "_law_k", "_law_wider", "_law_line", "_law_step", "_law_marks"]) (sc := d_L_lines.scope) (by decide +kernel)) (fun _ _ _ _ _ => (pg_name (i := 8) sc_L_lines.nd rfl (Or.inl rfl))) (fun _ _ _ _ _ => pts_nil) (fun _ _ _ _ _ => (pe_tupN (pa_cons (pe_op n_cat (pe_ix (show IxR _ (rIxT K) from ix_tup) (pv 6) pe_int (fun _ _ => rfl)) (pe_lstN (pa_cons (pv 8) pa_nil))) (pa_cons (pe_op n_cat (pe_ix (show IxR _ (rIxT K) from ix_tup) (pv 6) pe_int (fun _ _ => rfl)) (pe_lstN (pa_cons (pv 7) pa_nil))) pa_nil))))) pa_nil))))))))
          pss_nil)
        (pss_cons (ps_set (i := 2) sc_L_lines.nd rfl (Or.inl rfl) (pe_op n_cat (pv 2) (pv 5)))
        (pss_one (ps_set (i := 3) sc_L_lines.nd rfl (Or.inl rfl) (pv 5)))))))
      (pss_one (ps_ret (pv 2)))))), ?_⟩
    have sqta : ∀ {Hx : Hp}, Same H Hx → SqT K Hx ta [.ref sa, .ref st] := fun s => .inl (.inl (s _ _ eta))
    have S0 := Same.refl H
    refine ⟨.ref ta, rfl, ta, _, 0, .ref sa, rfl, rfl, sqta S0, atI_nat (j := 0) rfl, sa, rfl, ⟨_, .inl (.inl esa)⟩, fun D nD => lc_list (K := K) (a := sa) (xs := sv) (fun i Hx => Same H Hx ∧ ∃ acc, Hx D = some (.lst acc) ∧ AllLn sets stps 0 (rm D Hx) acc ∧ acc.length ≤ i) ⟨Same.new nD, [], upd_same, fun v hv => (by cases hv), Nat.le_refl _⟩ (fun i Hx _ ⟨sx, _⟩ => .inl (.inl (sx _ _ esa))) ?_ ?_⟩
    · rintro i x Hx hi ⟨sx, acc, eacc, aacc, hal⟩
      have hil : i < sv.length := (List.getElem?_eq_some_iff.mp hi).1
      obtain ⟨k, ek, dk⟩ := (dsa.mono (Same.tps sx)).getV hi
      rw [List.getElem?_map] at ek
      cases ets : sets[i]? with
      | none => rw [ets] at ek; cases ek
      | some ts =>
        rw [ets] at ek
        cases ek
        refine ⟨rfl, lc_yes ?_⟩
        refine ⟨x, rfl, by show 1 ≤ 1000; decide, fun ml H1 s1 nml eml => ⟨Nat.zero_le _, fun sl H2 s2 nsl esl => ⟨by show 2 ≤ 1000; decide, fun la H3 s3 nla ela => ?_⟩⟩⟩
        have s13 := Same.trans (Same.trans s1 s2) s3
        have eacc3 := s13 _ _ eacc
        have nmD : ml ≠ D := (ne_of_none eacc nml).symm
        have nsD : sl ≠ D := (ne_of_none (s1 _ _ eacc) nsl).symm
        have nlD : la ≠ D := (ne_of_none (s2 _ _ (s1 _ _ eacc)) nla).symm
        refine ⟨acc, eacc3, small_lt (m := 100) (by omega) (by decide), But.same nD (Same.trans sx s13) But.upd, acc ++ [.ref la], upd_same, ?_, by rw [List.length_append]; simp; omega⟩
        have sub : Same (rm D H3) (rm D (upd H3 D (.lst (acc ++ [.ref la])))) := rm_but But.upd
        refine (aacc.keep (Same.trans (rm_mono s13) sub) (Nat.le_refl _)).append fun v hv => ?_
        rw [List.mem_singleton.mp hv]
        obtain ⟨xt, ext⟩ : ∃ xa, x = .ref xa := by obtain ⟨xa, e, _⟩ := tk_inv dk; exact ⟨xa, e⟩
        have dk3 : Dn (rm D H3) x (tk ts) := by
          obtain ⟨xa, e, exa⟩ := tk_inv dk
          rw [e]
          refine dn_row ?_
          rw [rm_at (ne_of exa eacc (by intro z; cases z))]
          exact s13 _ _ exa
        refine ⟨[ts], [], (LineD.keep (H := rm D H3) ⟨⟨la, ml, sl, [x], [], rfl, by rw [rm_at nlD]; exact ela, by rw [rm_at nmD]; exact s3 _ _ (s2 _ _ eml), .cons dk3 .nil, by rw [rm_at nsD]; exact s3 _ _ esl, .nil⟩, rfl, Nat.zero_le _⟩ sub), fun y hy => by rw [List.mem_singleton.mp hy]; exact List.mem_of_getElem? ets, fun y hy => (by cases hy), Nat.le_refl _⟩
    rintro H1 ⟨s1, fv, efv, afv, hfv⟩
    have afv1 := afv.keep (rm_sub D H1) (Nat.le_refl 0)
    refine ⟨.ref D, rfl, ?_⟩
    refine ⟨vn 3, rfl, 3, rfl, by decide, by decide, for_range (lo := 0) (n := 3) (fun k σ H' => ∃ (fl la : Addr) (fv lv : List V) (v4 v5 v6 v7 : Option V), σ = [some (.ref ta), some (vn 3), some (.ref fl), some (.ref la), v4, v5, v6, v7, none] ∧ Same H H' ∧ H' fl = some (.lst fv) ∧ AllLn sets stps k H' fv ∧ fv.length ≤ 1000 * (k + 1) ∧ H' la = some (.lst lv) ∧ AllLn sets stps k H' lv ∧ lv.length ≤ 1000) ?_ ?_ ?_⟩
    · exact ⟨D, D, fv, fv, none, none, none, none, rfl, s1, efv, afv1, by omega, efv, afv1, by omega⟩
    · rintro k σ H2 hk ⟨fl, la, fv, lv, v4, v5, v6, v7, rfl, s2, efl, afl, hfl, ela, alv, hlv⟩
      refine ⟨Nat.zero_le _, fun wd H3 s3 nwd ewd => ?_⟩
      have s03 := Same.trans s2 s3
      have nwd0 : H wd = none := s2.free nwd
      dsimp only [gName]
      refine mergeS (fun σ' H' => ∃ (wv : List V) (v6 v7 : Option V), σ' = [some (.ref ta), some (vn 3), some (.ref fl), some (.ref la), some (.int (0 + (k : Int))), some (.ref wd), v6, v7, none] ∧ Same H2 H' ∧ H' wd = some (.lst wv) ∧ AllLn sets stps (k + 1) (rm wd H') wv ∧ wv.length ≤ 1000) (fun nx hnx => ?_) ?_
      · refine ⟨.ref la, rfl, .ref la, lv.length, rfl, .inl ⟨_, .inl (.inl (s3 _ _ ela)), rfl⟩, .ref ta, rfl, ta, _, 0, .ref sa, rfl, rfl, sqta s03, atI_nat (j := 0) rfl, .ref sa, sets.length, rfl, .inl ⟨_, .inl (.inl (s03 _ _ esa)), hsv.symm⟩, _, _, rfl, rfl, .inl ⟨by omega, by omega⟩, .ref ta, rfl, ta, _, 1, .ref st, rfl, rfl, sqta s03, atI_nat (j := 1) rfl, .ref st, stps.length, rfl, .inl ⟨_, .inl (.inl (s03 _ _ est)), htv.symm⟩, _, _, rfl, rfl, .inr ⟨by omega, by omega⟩, _, _, rfl, rfl, _, rfl, ?_⟩
        refine ite2 (fun hlt => ?_) (fun hlt => ?_)
        · have hlt : lv.length * sets.length * stps.length < 900 := by
            have h := of_decide_eq_true hlt
            have e : ((lv.length : Int) * (sets.length : Int) * (stps.length : Int)) = ((lv.length * sets.length * stps.length : Nat) : Int) := by push_cast; rfl
            rw [e] at h
            omega
          obtain ⟨Z, eZ⟩ : ∃ Z, Z = stps.length * sets.length := ⟨_, rfl⟩
          have hZ : lv.length * Z < 900 := by rw [eZ, Nat.mul_comm stps.length, ← Nat.mul_assoc]; exact hlt
          refine ⟨.ref la, rfl, la, rfl, ⟨_, .inl (.inl (s3 _ _ ela))⟩, for_list (K := K) (a := la) (xs := lv) (fun i σ H' => ∃ (wv : List V) (v6 v7 : Option V), σ = [some (.ref ta), some (vn 3), some (.ref fl), some (.ref la), some (.int (0 + (k : Int))), some (.ref wd), v6, v7, none] ∧ Same H2 H' ∧ H' wd = some (.lst wv) ∧ AllLn sets stps (k + 1) (rm wd H') wv ∧ wv.length ≤ i * Z) ?_ ?_ ?_ ?_⟩
          · exact ⟨[], _, _, rfl, s3, ewd, fun v hv => (by cases hv), Nat.zero_le _⟩
          · rintro i σ H4 hi ⟨wv, v6, v7, rfl, s4, _⟩
            exact .inl (.inl (s4 _ _ ela))
          · rintro i x σ H4 hi ⟨wv, v6, v7, rfl, s4, ewv, awv, hwv⟩
            have hil : i < lv.length := (List.getElem?_eq_some_iff.mp hi).1
            have s04 := Same.trans s2 s4
            obtain ⟨mss, stp, LD, hm1, hm2, hm3⟩ := alv x (List.mem_of_getElem? hi)
            obtain ⟨xa, xm, xs, mvs, svs, rfl, exa, exm, dxm, exs, dxs⟩ := LD.ex
            have hml := LD.len
            have hmv : mvs.length = mss.length := by rw [dxm.length, List.length_map]
            have hsv2 : svs.length = stp.length := by rw [dxs.length, List.length_map]
            refine ⟨.ref ta, rfl, ta, _, 1, .ref st, rfl, rfl, sqta s04, atI_nat (j := 1) rfl, st, rfl, ⟨_, .inl (.inl (s04 _ _ est))⟩, for_list (K := K) (a := st) (xs := tv) (fun j σ H' => ∃ (wv : List V) (v7 : Option V), σ = [some (.ref ta), some (vn 3), some (.ref fl), some (.ref la), some (.int (0 + (k : Int))), some (.ref wd), some (.ref xa), v7, none] ∧ Same H2 H' ∧ H' wd = some (.lst wv) ∧ AllLn sets stps (k + 1) (rm wd H') wv ∧ wv.length ≤ i * Z + j * sets.length) ?_ ?_ ?_ ?_⟩
            · exact ⟨wv, _, rfl, s4, ewv, awv, by omega⟩
            · rintro j σ H5 hj ⟨wv, v7, rfl, s5, _⟩
              exact .inl (.inl (Same.trans s2 s5 _ _ est))
            · rintro j y σ H5 hj ⟨wv, v7, rfl, s5, ewv, awv, hwv⟩
              have hjl : j < tv.length := (List.getElem?_eq_some_iff.mp hj).1
              have s05 := Same.trans s2 s5
              obtain ⟨ky, eky, dky⟩ := (dst.mono (Same.tps s05)).getV hj
              rw [List.getElem?_map] at eky
              cases eys : stps[j]? with
              | none => rw [eys] at eky; cases eky
              | some sy =>
                rw [eys] at eky
                cases eky
                have hsy := List.mem_of_getElem? eys
                have hbound : i * Z + j * sets.length + sets.length ≤ 900 := by
                  have h1 : j * sets.length + sets.length ≤ Z := by
                    rw [eZ, ← Nat.succ_mul]
                    exact Nat.mul_le_mul_right _ (by omega)
                  have h2 : i * Z + Z ≤ lv.length * Z := by
                    rw [← Nat.succ_mul]
                    exact Nat.mul_le_mul_right _ (by omega)
                  omega
                refine ⟨.ref wd, rfl, .inl ⟨rfl, _, .inl (.inl ewv)⟩, .ref ta, rfl, ta, _, 0, .ref sa, rfl, rfl, sqta s05, atI_nat (j := 0) rfl, sa, rfl, ⟨_, .inl (.inl (s05 _ _ esa))⟩, fun D2 nD2 => lc_list (K := K) (a := sa) (xs := sv) (fun l Hx => Same H5 Hx ∧ ∃ acc, Hx D2 = some (.lst acc) ∧ AllLn sets stps (k + 1) (rm D2 (rm wd Hx)) acc ∧ acc.length ≤ l) ⟨Same.new nD2, [], upd_same, fun v hv => (by cases hv), Nat.le_refl _⟩ (fun l Hx _ ⟨sx, _⟩ => .inl (.inl (Same.trans s05 sx _ _ esa))) ?_ ?_⟩
                · rintro l z Hx hl ⟨sx, acc, eacc, aacc, hal⟩
                  have hll : l < sv.length := (List.getElem?_eq_some_iff.mp hl).1
                  have s0x := Same.trans s05 sx
                  have s2x := Same.trans s5 sx
                  obtain ⟨kz, ekz, dkz⟩ := (dsa.mono (Same.tps s0x)).getV hl
                  rw [List.getElem?_map] at ekz
                  cases ezs : sets[l]? with
                  | none => rw [ezs] at ekz; cases ekz
                  | some ts =>
                    rw [ezs] at ekz
                    cases ekz
                    refine ⟨rfl, lc_yes ?_⟩
                    refine ⟨.ref xa, rfl, xa, _, 0, .ref xm, rfl, rfl, .inl (.inl (s2x _ _ exa)), atI_nat (j := 0) rfl, z, rfl, by show 1 ≤ 1000; decide, fun b1 H6 s6 nb1 eb1 => ⟨xm, b1, _, _, rfl, rfl, s6 _ _ (s2x _ _ exm), eb1, by show mvs.length + 1 ≤ _; omega, fun ml H7 s7 nml eml => ?_⟩⟩
                    have s27 := Same.trans s2x (Same.trans s6 s7)
                    refine ⟨.ref xa, rfl, xa, _, 1, .ref xs, rfl, rfl, .inl (.inl (s27 _ _ exa)), atI_nat (j := 1) rfl, y, rfl, by show 1 ≤ 1000; decide, fun b2 H8 s8 nb2 eb2 => ⟨xs, b2, _, _, rfl, rfl, s8 _ _ (s27 _ _ exs), eb2, by show svs.length + 1 ≤ _; omega, fun sl H9 s9 nsl esl => ⟨by show 2 ≤ 1000; decide, fun ln H10 s10 nln eln => ?_⟩⟩⟩
                    have sx10 := Same.trans (Same.trans (Same.trans (Same.trans s6 s7) s8) s9) s10
                    have eacc10 := sx10 _ _ eacc
                    have ewx := sx _ _ ewv
                    have fresh : ∀ {Ha : Hp} {b : Addr}, Same Hx Ha → Ha b = none → b ≠ D2 ∧ b ≠ wd := fun s n => ⟨(ne_of_none (s _ _ eacc) n).symm, (ne_of_none (s _ _ ewx) n).symm⟩
                    obtain ⟨f1, f2⟩ := fresh s6 nml
                    obtain ⟨g1, g2⟩ := fresh (Same.trans (Same.trans s6 s7) s8) nsl
                    obtain ⟨h1, h2⟩ := fresh (Same.trans (Same.trans (Same.trans s6 s7) s8) s9) nln
                    refine ⟨acc, eacc10, small_lt (m := 100) (by omega) (by decide), But.same nD2 (Same.trans sx sx10) But.upd, acc ++ [.ref ln], upd_same, ?_, by rw [List.length_append]; simp; omega⟩
                    have sub : Same (rm D2 (rm wd H10)) (rm D2 (rm wd (upd H10 D2 (.lst (acc ++ [.ref ln]))))) := fun b o hb => by
                      unfold rm at hb ⊢
                      split at hb
                      · cases hb
                      · rename_i hb1
                        rw [if_neg hb1]
                        split at hb
                        · cases hb
                        · rename_i hb2
                          rw [if_neg hb2, upd_ne hb1]
                          exact hb
                    refine (aacc.keep (Same.trans (rm_mono (rm_mono sx10)) sub) (Nat.le_refl _)).append fun v hv => ?_
                    rw [List.mem_singleton.mp hv]
                    have tp : Tps H10 (rm D2 (rm wd H10)) := fun a us ha => by
                      rw [rm_at (ne_of ha eacc10 (by intro z; cases z)), rm_at (ne_of ha (sx10 _ _ ewx) (by intro z; cases z))]
                      exact ha
                    have s210 := Same.trans s2x sx10
                    have dm : DnAll (rm D2 (rm wd H10)) (mvs ++ [z]) ((mss ++ [ts]).map tk) := by
                      rw [List.map_append]
                      exact ((dxm.mono (Same.tps s210)).mono tp).append (.cons ((dkz.mono (Same.tps sx10)).mono tp) .nil)
                    have ds : DnAll (rm D2 (rm wd H10)) (svs ++ [y]) ((stp ++ [sy]).map skey) := by
                      rw [List.map_append]
                      exact ((dxs.mono (Same.tps s210)).mono tp).append (.cons (((dky.mono (Same.tps sx)).mono (Same.tps sx10)).mono tp) .nil)
                    refine ⟨mss ++ [ts], stp ++ [sy], LineD.keep (H := rm D2 (rm wd H10)) ⟨⟨ln, ml, sl, _, _, rfl, by rw [rm_at h1, rm_at h2]; exact eln, by rw [rm_at f1, rm_at f2]; exact s10 _ _ (s9 _ _ (s8 _ _ eml)), dm, by rw [rm_at g1, rm_at g2]; exact s10 _ _ esl, ds⟩, by rw [List.length_append, List.length_append, hml] <;> rfl, by rw [List.length_append]; simp; omega⟩ sub, fun x' hx' => ?_, fun x' hx' => ?_, by rw [List.length_append]; simp; omega⟩
                    · rcases List.mem_append.mp hx' with h | h
                      · exact hm1 x' h
                      · rw [List.mem_singleton.mp h]; exact List.mem_of_getElem? ezs
                    · rcases List.mem_append.mp hx' with h | h
                      · exact hm2 x' h
                      · rw [List.mem_singleton.mp h]; exact hsy
                · rintro Hx ⟨sx, acc, eacc, aacc, hal⟩
                  rw [hsv] at hal
                  have ewx := sx _ _ ewv
                  refine ⟨wd, D2, wv, acc, rfl, rfl, ewx, eacc, small_ (m := 2000) (by omega) (by decide), ?_⟩
                  have subw : Same (rm wd Hx) (rm wd (upd Hx wd (.lst (wv ++ acc)))) := rm_but But.upd
                  have nwd2 : H2 wd = none := nwd
                  refine ⟨wv ++ acc, _, rfl, But.same nwd2 (Same.trans s5 sx) But.upd, upd_same, ?_, ?_⟩
                  · refine (awv.keep (Same.trans (rm_mono sx) subw) (Nat.le_refl _)).append (aacc.keep (Same.trans (rm_sub D2 (rm wd Hx)) subw) (Nat.le_refl _))
                  · rw [List.length_append, Nat.succ_mul]
                    omega
            · rintro σ H5 ⟨wv, v7, rfl, s5, ewv, awv, hwv⟩
              refine ⟨wv, _, _, rfl, s5, ewv, awv, ?_⟩
              rw [htv, ← eZ] at hwv
              rw [Nat.succ_mul]
              exact hwv
          · rintro σ H4 ⟨wv, v6, v7, rfl, s4, ewv, awv, hwv⟩
            exact hnx _ _ ⟨wv, _, _, rfl, s4, ewv, awv, by omega⟩
        · exact hnx _ _ ⟨[], _, _, rfl, s3, ewd, fun v hv => (by cases hv), Nat.zero_le _⟩
      rintro σ' H4 ⟨wv, v6, v7, rfl, s4, ewv, awv, hwv⟩
      have awv4 := awv.keep (rm_sub wd H4) (Nat.le_refl (k + 1))
      refine ⟨.ref fl, rfl, .ref wd, rfl, fl, wd, fv, wv, rfl, rfl, s4 _ _ efl, ewv, by omega, fun f2 H5 s5 nf2 ef2 => ?_⟩
      refine ⟨.ref wd, rfl, f2, wd, fv ++ wv, wv, _, _, _, _, rfl, Same.trans (Same.trans s2 s4) s5, ef2, (afl.keep (Same.trans s4 s5) (by omega)).append (awv4.keep s5 (Nat.le_refl _)), by rw [List.length_append]; omega, s5 _ _ ewv, awv4.keep s5 (Nat.le_refl _), hwv⟩
    · rintro σ H2 ⟨fl, la, fv, lv, v4, v5, v6, v7, rfl, s2, efl, afl, hfl, ela, alv, hlv⟩
      exact ⟨.ref fl, rfl, q fl fv H2 s2 efl afl⟩
end
end Pk
namespace Pk
set_option autoImplicit false
set_option maxRecDepth 100000
open PySem (Str)
/-! the ends of the steps -/
def tgs (ms : List Move) : List Nat := ms.filterMap fun mv => match mv.2.1 with
  | .step _ _ => some mv.2.2
  | _ => none
theorem tgs_append (xs ys : List Move) : tgs (xs ++ ys) = tgs xs ++ tgs ys := List.filterMap_append
mutual
theorem tgs_len : ∀ (p : Pat) (a b n : Nat), (tgs (lay p a b n)).length = nst p
  | .stay, a, b, n => rfl
  | .step s v, a, b, n => rfl
  | .att m, a, b, n => rfl
  | .off m, a, b, n => rfl
  | .thn ps, a, b, n => by simp only [lay, nst]; exact tgsRow_len ps a b n
  | .eit ps, a, b, n => by simp only [lay, nst]; exact tgsAny_len ps a b n
  | .many p, a, b, n => by
    simp only [lay, nst]
    exact tgs_len p n n (n + 1)
theorem tgsAny_len : ∀ (ps : List Pat) (a b n : Nat), (tgs (layAny ps a b n)).length = nsts ps
  | [], a, b, n => rfl
  | p :: ps, a, b, n => by simp only [layAny, nsts, tgs_append, List.length_append, tgs_len p a b n, tgsAny_len ps a b (n + fr p)]
theorem tgsRow_len : ∀ (ps : List Pat) (a b n : Nat), (tgs (layRow ps a b n)).length = nsts ps
  | [], a, b, n => rfl
  | [p], a, b, n => by simp only [layRow, nsts, tgs_len p a b n, Nat.add_zero]
  | p :: q :: r, a, b, n => by
    rw [layRow, nsts, tgs_append, List.length_append, tgs_len p a n (n + 1), tgsRow_len (q :: r) n b (n + 1 + fr p)]
end
theorem stp_tgs {ms : List Move} {S : Nat → Prop} {sd w : Str} {q : Nat} (h : Stp ms S sd w q) : q ∈ tgs ms := by
  obtain ⟨a, l, _, m, e⟩ := h
  refine List.mem_filterMap.mpr ⟨_, m, ?_⟩
  cases l with
  | step s v => rfl
  | _ => cases e
/-- all rows of n truth values -/
def bvs : Nat → List (List Bool)
  | 0 => [[]]
  | n + 1 => (bvs n).map (true :: ·) ++ (bvs n).map (false :: ·)
theorem bvs_len : ∀ n, (bvs n).length = 2 ^ n
  | 0 => rfl
  | n + 1 => by simp only [bvs, List.length_append, List.length_map, bvs_len n, Nat.pow_succ]; omega
theorem mem_bvs : ∀ (bs : List Bool), bs ∈ bvs bs.length
  | [] => by simp [bvs]
  | true :: bs => List.mem_append_left _ (List.mem_map_of_mem (mem_bvs bs))
  | false :: bs => List.mem_append_right _ (List.mem_map_of_mem (mem_bvs bs))
theorem inc_eq {S T : List Nat} (hs : S.Pairwise (· < ·)) (ht : T.Pairwise (· < ·)) (m : ∀ x, x ∈ S ↔ x ∈ T) : S = T := by
  have nd : ∀ {L : List Nat}, L.Pairwise (· < ·) → L.Nodup := fun h => h.imp fun e => Nat.ne_of_lt e
  have p : S.Perm T := (List.perm_ext_iff_of_nodup (nd hs) (nd ht)).mpr m
  exact p.eq_of_pairwise (le := fun a b => a < b) (fun a b _ _ h k => absurd h (Nat.lt_asymm k)) hs ht
/-- few pairs -/
theorem few_of {p r : Pat} {sets : List (List Str)} {steps : List (Str × Str)} {F : List PairS} {cs : List Link} (hp : nst p ≤ 4) (hr : nst r ≤ 4) (W : WInv (machine p) (machine r) sets steps F cs) : F.length ≤ 65 := by
  obtain ⟨T1, e1⟩ : ∃ T1, T1 = tgs (machine p) := ⟨_, rfl⟩
  obtain ⟨T2, e2⟩ : ∃ T2, T2 = tgs (machine r) := ⟨_, rfl⟩
  have l1 : T1.length ≤ 4 := by rw [e1]; unfold machine; rw [tgs_len]; exact hp
  have l2 : T2.length ≤ 4 := by rw [e2]; unfold machine; rw [tgs_len]; exact hr
  cases F with
  | nil => simp
  | cons f0 G =>
    have facts : ∀ e ∈ G, e.1 ∈ T1 ∧ (∀ x ∈ e.2, x ∈ T2) ∧ e.2.Pairwise (· < ·) := fun e he => by
      obtain ⟨k, hk, ek⟩ := List.getElem_of_mem he
      obtain ⟨j, m, sd, w, p', S', x⟩ := W.rest (k + 1) e.1 e.2 (by omega) (by rw [List.getElem?_cons_succ, List.getElem?_eq_getElem hk, ek])
      refine ⟨by rw [e1]; exact stp_tgs x.one, fun y hy => by rw [e2]; exact stp_tgs ((x.two y).mp hy), x.inc⟩
    have ndG : G.Nodup := (List.nodup_cons.mp W.nodup).2
    obtain ⟨enc, henc⟩ : ∃ enc : PairS → Nat × List Bool, enc = fun e => (e.1, T2.map fun x => decide (x ∈ e.2)) := ⟨_, rfl⟩
    have inj : ∀ a ∈ G, ∀ b ∈ G, enc a = enc b → a = b := fun a ha b hb h => by
      obtain ⟨_, a2, a3⟩ := facts a ha
      obtain ⟨_, b2, b3⟩ := facts b hb
      rw [henc] at h
      have hh : a.1 = b.1 ∧ (T2.map fun x => decide (x ∈ a.2)) = T2.map fun x => decide (x ∈ b.2) := Prod.mk.inj h
      obtain ⟨h1, h2⟩ := hh
      have h3 : ∀ x ∈ T2, (x ∈ a.2 ↔ x ∈ b.2) := fun x hx => by
        have := List.map_inj_left.mp h2 x hx
        rw [decide_eq_decide] at this
        exact this
      have h4 : a.2 = b.2 := inc_eq a3 b3 fun x => ⟨fun z => (h3 x (a2 x z)).mp z, fun z => (h3 x (b2 x z)).mpr z⟩
      exact Prod.ext h1 h4
    have nd2 : (G.map enc).Nodup := by
      refine List.pairwise_map.mpr ?_
      refine (List.Pairwise.and_mem.mp ndG).imp ?_
      rintro a b ⟨ha, hb, hne⟩ e
      exact hne (inj a ha b hb e)
    have sub : ∀ y ∈ G.map enc, y ∈ T1.flatMap fun q => (bvs T2.length).map fun bs => (q, bs) := fun y hy => by
      obtain ⟨e, he, rfl⟩ := List.mem_map.mp hy
      rw [henc]
      refine List.mem_flatMap.mpr ⟨e.1, (facts e he).1, List.mem_map_of_mem ?_⟩
      have := mem_bvs (T2.map fun x => decide (x ∈ e.2))
      rw [List.length_map] at this
      exact this
    have hl := nd2.length_le_of_subset sub
    have hlen : (T1.flatMap fun q => (bvs T2.length).map fun bs => (q, bs)).length = T1.length * 2 ^ T2.length := by
      clear hl sub nd2 inj facts e1 l1
      induction T1 with
      | nil => simp
      | cons q T ih => rw [List.flatMap_cons, List.length_append, List.length_map, bvs_len, ih, List.length_cons, Nat.succ_mul, Nat.add_comm]
    rw [List.length_map, hlen] at hl
    have hm : T1.length * 2 ^ T2.length ≤ 4 * 16 := Nat.mul_le_mul l1 (Nat.le_trans (Nat.pow_le_pow_right (by decide) l2) (by decide))
    rw [List.length_cons]
    omega
/-! the words of the moves -/
mutual
theorem lay_words : ∀ (p : Pat) (a b n : Nat) (mv : Move) (s w : Str), mv ∈ lay p a b n → mv.2.1 = .step s w → w = star ∨ w ∈ wds p
  | .stay, a, b, n, mv, s, w, h, e => by simp only [lay, List.mem_singleton] at h; subst h; cases e
  | .step s' v, a, b, n, mv, s, w, h, e => by
    simp only [lay, List.mem_singleton] at h
    subst h
    cases e
    by_cases hw : v = star
    · exact .inl hw
    · right
      simp only [wds]
      rw [if_neg hw]
      simp
  | .att m, a, b, n, mv, s, w, h, e => by simp only [lay, List.mem_singleton] at h; subst h; cases e
  | .off m, a, b, n, mv, s, w, h, e => by simp only [lay, List.mem_singleton] at h; subst h; cases e
  | .thn ps, a, b, n, mv, s, w, h, e => by simp only [lay] at h; simp only [wds]; exact layRow_words ps a b n mv s w h e
  | .eit ps, a, b, n, mv, s, w, h, e => by simp only [lay] at h; simp only [wds]; exact layAny_words ps a b n mv s w h e
  | .many p, a, b, n, mv, s, w, h, e => by
    simp only [lay, List.mem_cons] at h
    simp only [wds]
    rcases h with h | h | h
    · subst h; cases e
    · subst h; cases e
    · exact lay_words p n n (n + 1) mv s w h e
theorem layAny_words : ∀ (ps : List Pat) (a b n : Nat) (mv : Move) (s w : Str), mv ∈ layAny ps a b n → mv.2.1 = .step s w → w = star ∨ w ∈ wdss ps
  | [], a, b, n, mv, s, w, h, e => by simp [layAny] at h
  | p :: ps, a, b, n, mv, s, w, h, e => by
    simp only [layAny, List.mem_append] at h
    simp only [wdss, List.mem_append]
    rcases h with h | h
    · exact (lay_words p a b n mv s w h e).imp id .inl
    · exact (layAny_words ps a b (n + fr p) mv s w h e).imp id .inr
theorem layRow_words : ∀ (ps : List Pat) (a b n : Nat) (mv : Move) (s w : Str), mv ∈ layRow ps a b n → mv.2.1 = .step s w → w = star ∨ w ∈ wdss ps
  | [], a, b, n, mv, s, w, h, e => by simp only [layRow, List.mem_singleton] at h; subst h; cases e
  | [p], a, b, n, mv, s, w, h, e => by
    simp only [layRow] at h
    simp only [wdss, List.append_nil]
    exact lay_words p a b n mv s w h e
  | p :: q :: r, a, b, n, mv, s, w, h, e => by
    rw [layRow, List.mem_append] at h
    rw [wdss, List.mem_append]
    rcases h with h | h
    · exact (lay_words p a n (n + 1) mv s w h e).imp id .inl
    · exact (layRow_words (q :: r) n b (n + 1 + fr p) mv s w h e).imp id .inr
end
/-- two words that no step names are alike -/
theorem stepBy_like {p : Pat} {mv : Move} (h : mv ∈ machine p) {sd w w' : Str} (hw : w ∉ wds p) (hw' : w' ∉ wds p) (h1 : w ≠ star) (h2 : w' ≠ star) : stepBy mv.2.1 sd w = stepBy mv.2.1 sd w' := by
  cases e : mv.2.1 with
  | step s v =>
    have := lay_words p 0 1 2 mv s v h e
    show (decide (s = sd) && (decide (v = star) || decide (v = w))) = (decide (s = sd) && (decide (v = star) || decide (v = w')))
    rcases this with rfl | hv
    · rw [decide_eq_true (rfl : star = star), Bool.true_or, Bool.true_or]
    · have a : ¬ v = w := fun z => hw (z ▸ hv)
      have b : ¬ v = w' := fun z => hw' (z ▸ hv)
      rw [decide_eq_false a, decide_eq_false b]
  | _ => rfl
end Pk
namespace Pk
set_option autoImplicit false
set_option maxRecDepth 100000
set_option maxHeartbeats 4000000
open PySem PySem.Spec PyProof.Rows L2
theorem sc_law : FnScope ["_law_script", "_law_feed_here", "_law_one", "_law_other", "_law_told", "_law_line"] ["_law_script"] d_law.scope := ⟨rfl, rfl, rfl, by decide +kernel, rfl, by decide +kernel, by decide +kernel⟩
theorem PIn.words {ws ms : List Str} {p : Pat} (h : PIn ws ms p) : ∀ x ∈ wds p, x ∈ ws := fun x hx => by
  obtain ⟨n, s, hs⟩ := mem_wds.mp hx
  have := h _ hs rfl
  exact (show (s = "on" ∨ s = "back") ∧ (x = star ∨ x ∈ ws) from this).2.resolve_left n
theorem PIn.marks {ws ms : List Str} {p : Pat} (h : PIn ws ms p) : ∀ x ∈ mks p, x ∈ ms := fun x hx => by
  rcases mem_mks.mp hx with hs | hs
  · exact (show x ∈ ms from h _ hs rfl)
  · exact (show x ∈ ms from h _ hs rfl)
theorem PIn.part {ws ms : List Str} {p q : Pat} (h : PIn ws ms p) (hq : q ∈ parts p) : PIn ws ms q := fun r s l => h r (sub_iff.mpr (.inr ⟨q, hq, s⟩)) l
theorem okK_pkey {ws ms : List Str} (hw : ∀ x ∈ ws, x ∈ nameT) (hm : ∀ x ∈ ms, x ∈ nameT) : ∀ (n : Nat) (p : Pat), sz p ≤ n → PIn ws ms p → okK (pkey p) := by
  intro n
  induction n with
  | zero => intro p h; have := sz_pos p; omega
  | succ n ih =>
    intro p hz h
    have sub : ∀ q ∈ parts p, okK (pkey q) := fun q hq => ih q (by have := parts_lt hq; omega) (h.part hq)
    have leaf : isLeaf p = true → LeafIn ws ms p := fun hl => h p (sub_iff.mpr (.inl rfl)) hl
    have tg : ∀ x : Str, x ∈ (["stay", "step", "at", "off", "then", "either", "many", "on", "back", star] : List Str) → PyData.strOk x = true := by decide +kernel
    have seq : ∀ ps : List Pat, (∀ q ∈ ps, okK (pkey q)) → okKs (pkeys ps) := fun ps hp => by
      rw [pkeys_map]
      exact okKs_of fun k hk => by
        obtain ⟨q, hq, rfl⟩ := List.mem_map.mp hk
        exact hp q hq
    cases p with
    | stay => exact ⟨tg _ (by decide), trivial⟩
    | step s v =>
      have hl : (s = "on" ∨ s = "back") ∧ (v = star ∨ v ∈ ws) := leaf rfl
      refine ⟨tg _ (by decide), ?_, ?_, trivial⟩
      · show PyData.strOk s = true
        rcases hl.1 with rfl | rfl <;> exact tg _ (by decide)
      · show PyData.strOk v = true
        rcases hl.2 with rfl | hv
        · exact tg _ (by decide)
        · exact nameT_ok v (hw v hv)
    | att m => exact ⟨tg _ (by decide), nameT_ok m (hm m (leaf rfl)), trivial⟩
    | off m => exact ⟨tg _ (by decide), nameT_ok m (hm m (leaf rfl)), trivial⟩
    | thn ps => exact ⟨tg _ (by decide), seq ps sub, trivial⟩
    | eit ps => exact ⟨tg _ (by decide), seq ps sub, trivial⟩
    | many q => exact ⟨tg _ (by decide), sub q (List.mem_singleton.mpr rfl), trivial⟩
theorem askM_in {ws ms : List Str} {p r : Pat} (hp : PIn ws ms p) (hr : PIn ws ms r) : ∀ x ∈ askM p r, x ∈ ms := fun x hx => by
  unfold askM at hx
  rw [mem_sset, List.mem_append, mem_sset, mem_sset] at hx
  exact hx.elim (hp.marks x) (hr.marks x)
theorem askW_in {ws ms : List Str} {p r : Pat} (hp : PIn ws ms p) (hr : PIn ws ms r) : ∀ x ∈ askW p r, x ∈ ws := fun x hx => by
  unfold askW at hx
  rw [mem_sset, List.mem_append, mem_sset, mem_sset] at hx
  exact hx.elim (hp.words x) (hr.words x)
theorem askM_few {ws ms : List Str} {p r : Pat} (hp : PIn ws ms p) (hr : PIn ws ms r) : (askM p r).length ≤ ms.length := (nodup_sset _).length_le_of_subset fun x m => askM_in hp hr x m
theorem askW_few {ws ms : List Str} {p r : Pat} (hp : PIn ws ms p) (hr : PIn ws ms r) : (askW p r).length ≤ ws.length := (nodup_sset _).length_le_of_subset fun x m => askW_in hp hr x m
theorem spare_ex {W : List Str} (h : W.length ≤ 25) : ∃ x, x ∈ spareOf W ∧ x ∈ letters ∧ x ∉ W := by
  have nd : letters.Nodup := by decide +kernel
  have hl : letters.length = 26 := by decide +kernel
  unfold spareOf
  cases e : letters.filter fun x => !decide (x ∈ W) with
  | nil =>
    have : ∀ x ∈ letters, x ∈ W := fun x hx => by
      have := List.filter_eq_nil_iff.mp e x hx
      simpa using this
    have := nd.length_le_of_subset this
    omega
  | cons x l =>
    have hx : x ∈ letters.filter fun x => !decide (x ∈ W) := by rw [e]; simp
    obtain ⟨h1, h2⟩ := List.mem_filter.mp hx
    exact ⟨x, by simp, h1, by simpa using h2⟩
theorem mem_pairsOf {sds ws : List Str} {e : Str × Str} : e ∈ pairsOf sds ws ↔ e.1 ∈ sds ∧ e.2 ∈ ws := by
  unfold pairsOf
  rw [List.mem_flatMap]
  constructor
  · rintro ⟨sd, h1, h2⟩
    obtain ⟨v, h3, rfl⟩ := List.mem_map.mp h2
    exact ⟨h1, h3⟩
  · rintro ⟨h1, h2⟩
    exact ⟨e.1, h1, List.mem_map.mpr ⟨e.2, h2, rfl⟩⟩
theorem web_ok {ws ms : List Str} {p r : Pat} (hw : ∀ x ∈ ws, x ∈ nameT) (hm : ∀ x ∈ ms, x ∈ nameT) (h3 : ms.length ≤ 3) (hp : PIn ws ms p) (hr : PIn ws ms r) {t : Tr} {m : List Str} (hl : t.length ≤ 64) (ht : ∀ e ∈ t, e.1 ∈ subsF (askM p r) ∧ e.2 ∈ askS p r) (mm : m ∈ subsF (askM p r)) : WebOk t m := by
  have one : ∀ z ∈ subsF (askM p r), (∀ x ∈ z, nmOk x = true) ∧ z.Nodup ∧ z.Pairwise (fun a b => sle a b = true) ∧ z.length ≤ 5 := fun z hz => by
    obtain ⟨_, a, b⟩ := subs_sorted hz
    refine ⟨fun x hx => nameT_nm x (hm x (askM_in hp hr x ((subs_sub hz).subset hx))), a, b, ?_⟩
    have := subsF_small hz
    have := askM_few hp hr
    omega
  refine ⟨hl, fun k hk => ?_, fun k hk => ?_⟩
  · rcases Nat.lt_or_ge k t.length with h | h
    · rw [(tr_at (List.getElem?_eq_getElem h) m).1]
      exact one _ (ht _ (List.getElem_mem h)).1
    · have e : k = t.length := by omega
      rw [e, msk_last]
      exact one _ mm
  · rw [(tr_at (List.getElem?_eq_getElem hk) m).2]
    have := (ht _ (List.getElem_mem hk)).2
    unfold askS at this
    obtain ⟨a, b⟩ := mem_pairsOf.mp this
    refine ⟨?_, ?_⟩
    · simpa [sideT] using a
    · rcases List.mem_append.mp b with b | b
      · exact nameT_nm _ (hw _ (askW_in hp hr _ b))
      · unfold spareOf at b
        exact letters_nm _ (List.mem_filter.mp (List.mem_of_mem_take b)).1
theorem asked_line {ws ms : List Str} {p r : Pat} (hw : ∀ x ∈ ws, x ∈ nameT) (h4 : ws.length ≤ 4) (hp : PIn ws ms p) (hr : PIn ws ms r) {mss : List (List Str)} {steps : List (Str × Str)} (hl : mss.length = steps.length + 1) (h1 : ∀ x ∈ mss, x ∈ subsF (askM p r)) (h2 : ∀ s ∈ steps, s ∈ pairsOf sideT (askW p r ++ [("u" : Str)])) : Asked (machine p) (machine r) (subsF (askM p r)) (askS p r) (lnOf mss steps) := by
  refine ⟨fun k hk => ?_, fun k sd w hk => ?_⟩
  · have hk' : k < mss.length := by have : k ≤ steps.length := hk; omega
    refine ⟨mss[k], h1 _ (List.getElem_mem hk'), ?_⟩
    show mkOf (mss.getD k []) = _
    rw [List.getD_eq_getElem?_getD, List.getElem?_eq_getElem hk'] <;> rfl
  · have hm := h2 _ (List.mem_of_getElem? (show steps[k]? = some (sd, w) from hk))
    obtain ⟨a, b⟩ := mem_pairsOf.mp hm
    rcases List.mem_append.mp b with b | b
    · exact ⟨w, mem_pairsOf.mpr ⟨a, List.mem_append_left _ b⟩, fun _ _ => rfl, fun _ _ => rfl⟩
    · have ew : w = "u" := List.mem_singleton.mp b
      subst ew
      obtain ⟨x, hx, hx1, hx2⟩ := spare_ex (W := askW p r) (by have := askW_few hp hr; omega)
      have un : ("u" : Str) ∉ nameT := lawU_new _ (by decide)
      have us : ("u" : Str) ≠ star := by decide
      have xs : x ≠ star := fun e => by
        have := letters_nm x hx1
        rw [e] at this
        exact absurd this (by decide)
      refine ⟨x, mem_pairsOf.mpr ⟨a, List.mem_append_right _ hx⟩, fun mv h => ?_, fun mv h => ?_⟩
      · exact stepBy_like h (fun z => un (hw _ (hp.words _ z))) (fun z => hx2 (by unfold askW; rw [mem_sset, List.mem_append, mem_sset]; exact .inl z)) us xs
      · exact stepBy_like h (fun z => un (hw _ (hr.words _ z))) (fun z => hx2 (by unfold askW; rw [mem_sset, List.mem_append, mem_sset, mem_sset]; exact .inr z)) us xs
theorem yes_fit {ws ms : List Str} {p r : Pat} (hw : ∀ x ∈ ws, x ∈ nameT) (h4 : ws.length ≤ 4) (hp : PIn ws ms p) (hr : PIn ws ms r) {mss : List (List Str)} {steps : List (Str × Str)} (hl : mss.length = steps.length + 1) (h1 : ∀ x ∈ mss, x ∈ subsF (askM p r)) (h2 : ∀ s ∈ steps, s ∈ pairsOf sideT (askW p r ++ [("u" : Str)])) {F : List PairS} (y : Yes (machine p) (machine r) (subsF (askM p r)) (askS p r) F) (hf : Fit (lnOf mss steps) p 0 steps.length) : Fit (lnOf mss steps) r 0 steps.length := by
  rw [fit_iff] at hf ⊢
  exact yes_line y (asked_line hw h4 hp hr hl h1 h2) hf
section
variable {P : Program} {w : World} {K : PySem.W.Frag} {mg : Str → Option Value} {base : Heap}
def sqLaw (K : PySem.W.Frag) : Sq := fun vs H Q => ∃ (a : Addr) (ns : List Int), vs = [.ref a] ∧ SqL K H a (ns.map V.int) ∧ ns.length ≤ 63 ∧ ∀ H', Q (.bl true) H'
theorem law_body (W : Wd K mg) (f : Addr) (cdv : Value) (A : Around) (outer : List Env) (s : Shared) (H : Hp) (vs : List V) (Q : VK) (E : XK) (hr : Room 22 (A.deeper (envOfC d_law.qual d_law.scope s.heap.objs.size f cdv))) (h : sqLaw K vs H Q) :
    ∃ t, PSs (cxOf CX0 P w K mg base ["_law_script", "_law_feed_here", "_law_one", "_law_other", "_law_told", "_law_line"] d_law.qual d_law.scope f cdv A outer s H E).nox d_law.body t ∧ t { nx := fun _ H' => Q .non H', rt := Q } (start ["_law_script", "_law_feed_here", "_law_one", "_law_other", "_law_told", "_law_line"] vs) H := by
  · obtain ⟨a, ns, rfl, hsq, hn, q⟩ := h
    have hu := hr.units
    have c_L_feed : Cl P w K mg base "_law_feed" ["_law_script"] 1 (sqFeed K) := ok_L_feed W
    have c_L_two : Cl P w K mg base "_law_two" ["_law_feed_here"] 9 sqTwo := ok_L_two W
    have c_within : Cl P w K mg base "within" ["one", "other"] 21 sqWithin := ok_within W
    have c_L_parts : Cl P w K mg base "_law_parts" ["_law_one", "_law_other", "_law_rows_here", "_law_way"] 11 sqParts := ok_L_parts W
    have c_L_lines : Cl P w K mg base "_law_lines" ["_law_asked_here", "_law_most"] 1 sqLines := ok_L_lines W
    have c_L_asked : Cl P w K mg base "_law_asked" ["_law_one", "_law_other"] 10 sqAsked := ok_L_asked W
    have c_L_right : Cl P w K mg base "_law_right" ["_law_pattern_here", "_law_line"] 10 sqRight := ok_L_right W
    refine ⟨_, (pss_cons (ps_set (i := 1) sc_law.nd rfl (Or.inl rfl) (pe_fn c_L_feed (hr.mono (by omega)) (by rfl) (pa_cons (pv 0) pa_nil)))
      (pss_cons (ps_asg (pe_fn c_L_two (hr.mono (by omega)) (by rfl) (pa_cons (pv 1) pa_nil)) (pg_tup rfl (pgs_cons (pg_name (i := 2) sc_law.nd rfl (Or.inl rfl)) (pgs_cons (pg_name (i := 3) sc_law.nd rfl (Or.inl rfl)) pgs_nil))))
      (pss_cons (ps_set (i := 4) sc_law.nd rfl (Or.inl rfl) (pe_fn c_within (hr.mono (by omega)) (by rfl) (pa_cons (pv 2) (pa_cons (pv 3) pa_nil))))
      (pss_cons (ps_if (PW.pt (pw_and (pt_cmpR op_eqT (pe_ix ix_tup (pv 4) pe_int (fun _ _ => rfl)) pe_str (nomark _)) (pw_and1 (pt_not (pt_val (pe_fn c_L_parts (hr.mono (by omega)) (by rfl) (pa_cons (pv 2) (pa_cons (pv 3) (pa_cons (pe_ix ix_tup (pv 4) pe_int (fun _ _ => rfl)) (pa_cons (pe_ix ix_tup (pv 4) pe_int (fun _ _ => rfl)) pa_nil))))))))))
        (pss_one (ps_ret pe_bl))
        pss_nil)
      (pss_cons (ps_for PassesOwn.never rfl (pi_list (pe_fn c_L_lines (hr.mono (by omega)) (by rfl) (pa_cons (pe_fn c_L_asked (hr.mono (by omega)) (by rfl) (pa_cons (pv 2) (pa_cons (pv 3) pa_nil))) (pa_cons pe_int pa_nil)))) (pg_name (i := 5) sc_law.nd rfl (Or.inl rfl))
        (pss_one (ps_if (PW.pt (pw_and (pt_val (pe_fn c_L_right (hr.mono (by omega)) (by rfl) (pa_cons (pv 2) (pa_cons (pv 5) pa_nil)))) (pw_and1 (pt_not (pt_val (pe_fn c_L_right (hr.mono (by omega)) (by rfl) (pa_cons (pv 3) (pa_cons (pv 5) pa_nil))))))))
          (pss_one (ps_ret (pe_cmpR op_eqT (pe_ix ix_tup (pv 4) pe_int (fun _ _ => rfl)) pe_str (nomark _))))
          pss_nil)))
      (pss_one (ps_ret (pe_cmpR op_inT (pe_ix ix_tup (pv 4) pe_int (fun _ _ => rfl)) (pe_tupN (pa_cons pe_str (pa_cons pe_str pa_nil))) (by rfl))))))))), ?_⟩
    refine ⟨.ref a, rfl, a, ns, rfl, hsq, hn, fun fd cl H1 s1 nfd F => ?_⟩
    refine ⟨.ref fd, rfl, fd, cl, 0, rfl, F, by decide, fun t v u p r ws ms H2 k2 et hp hq h4 h3 hw hm gp gr => ?_⟩
    have m3 := askM_few gp.pin gr.pin
    have w4 := askW_few gp.pin gr.pin
    have few : Few p r := fun F cs W => few_of gp.nst gr.nst W
    obtain ⟨A0, eA⟩ : ∃ A0 : Hp → Addr → Prop, A0 = fun H' ad => (∃ F b, Yes (machine p) (machine r) (subsF (askM p r)) (askS p r) F ∧ H' ad = some (.tup [.str "yes", .ref b])) ∨ (∃ (t : Tr) (m : List Str) (ro : Addr) (wy : V), H' ad = some (.tup [.str "no", .ref ro, wy]) ∧ WebR H' ro wy t m ∧ WebOk t m ∧ Fit (lineOf t m) p 0 t.length ∧ ¬ Fit (lineOf t m) r 0 t.length) := ⟨_, rfl⟩
    obtain ⟨A1, eA1⟩ : ∃ A1 : Hp → Addr → Prop, A1 = fun H' ad => ∃ (tg : Str) (xs : List V), H' ad = some (.tup (.str tg :: xs)) ∧ (tg = "no" ∨ (tg = "yes" ∧ ∃ F, Yes (machine p) (machine r) (subsF (askM p r)) (askS p r) F)) := ⟨_, rfl⟩
    refine ⟨t, _, rfl, .inl (.inl et), rfl, v, _, rfl, u, [], rfl, rfl, ?_⟩
    dsimp only [gName]
    refine mergeS (fun σ' H' => ∃ ad, σ' = [some (.ref a), some (.ref fd), some v, some u, some (.ref ad), none] ∧ Same H2 H' ∧ A0 H' ad) (fun nx hnx => ?_) ?_
    · refine ⟨v, rfl, u, rfl, v, u, p, r, rfl, hp, hq, gp.sz, gr.sz, okK_pkey hw hm _ p (Nat.le_refl _) gp.pin, okK_pkey hw hm _ r (Nat.le_refl _) gr.pin, by have := gp.dep; omega, by have := gr.dep; omega, by omega, few, fun F ad b H3 s3 y ea => ?_, fun t m ad ro wy H3 s3 ea wr hl ht hm' f1 f2 => ?_⟩
      · exact hnx _ _ ⟨ad, rfl, s3, by rw [eA]; exact .inl ⟨F, b, y, ea⟩⟩
      · exact hnx _ _ ⟨ad, rfl, s3, by rw [eA]; exact .inr ⟨t, m, ro, wy, ea, wr, web_ok hw hm h3 gp.pin gr.pin hl ht hm', f1, f2⟩⟩
    rintro σ' H3 ⟨ad, rfl, s3, a0⟩
    refine mergeS (fun σ' H' => σ' = [some (.ref a), some (.ref fd), some v, some u, some (.ref ad), none] ∧ Same H2 H' ∧ A1 H' ad) (fun nx hnx => ?_) ?_
    · rw [eA] at a0
      rcases a0 with ⟨F, b, y, ea⟩ | ⟨t, m, ro, wy, ea, wr, wk, f1, f2⟩
      · refine ⟨.ref ad, rfl, ad, _, 0, _, rfl, rfl, .inl (.inl ea), atI_nat (j := 0) rfl, "yes", "no", rfl, rfl, _, rfl, ?_⟩
        refine iteF ?_
        refine iteF ?_
        dsimp only [tNext]
        exact hnx _ _ ⟨rfl, s3, by rw [eA1]; exact ⟨"yes", _, ea, .inr ⟨rfl, F, y⟩⟩⟩
      · refine ⟨.ref ad, rfl, ad, _, 0, _, rfl, rfl, .inl (.inl ea), atI_nat (j := 0) rfl, "no", "no", rfl, rfl, _, rfl, ?_⟩
        refine iteT ?_
        refine ⟨v, rfl, u, rfl, .ref ad, rfl, ad, _, 1, _, rfl, rfl, .inl (.inl ea), atI_nat (j := 1) rfl, .ref ad, rfl, ad, _, 2, _, rfl, rfl, .inl (.inl ea), atI_nat (j := 2) rfl, ?_⟩
        refine ⟨v, u, ro, wy, p, r, t, m, rfl, hp.mono (Same.tps s3), hq.mono (Same.tps s3), gp.sz, gr.sz, wr, wk, f1, f2, fun H4 s4 => ⟨_, rfl, ?_⟩⟩
        refine iteF ?_
        dsimp only [tNext]
        exact hnx _ _ ⟨rfl, Same.trans s3 s4, by rw [eA1]; exact ⟨"no", _, s4 _ _ ea, .inl rfl⟩⟩
    rintro σ' H4 ⟨rfl, s4, a1⟩
    rw [eA1] at a1
    obtain ⟨tg, xs, ea, hy⟩ := a1
    refine ⟨v, rfl, u, rfl, v, u, p, r, rfl, hp.mono (Same.tps s4), hq.mono (Same.tps s4), gp.sz, gr.sz, fun x hx => hw x (gp.pin.words x hx), fun x hx => hw x (gr.pin.words x hx), by omega, fun ta sa st H5 s5 eta lsa lst => ?_⟩
    refine ⟨ta, sa, st, _, _, rfl, eta, lsa, lst, ?_, ?_, fun la lvs H6 s6 ela aln => ?_⟩
    · rw [subsF_len]
      exact Nat.le_trans (Nat.pow_le_pow_right (by decide) (show (askM p r).length ≤ 6 by omega)) (by decide)
    · rw [pairs_len, List.length_append, show sideT.length = 2 from rfl, show [("u" : Str)].length = 1 from rfl]
      omega
    have s46 := Same.trans s5 s6
    refine ⟨la, rfl, ⟨_, .inl (.inl ela)⟩, for_list (K := K) (a := la) (xs := lvs) (fun i σ H' => ∃ v5, σ = [some (.ref a), some (.ref fd), some v, some u, some (.ref ad), v5] ∧ Same H6 H') ⟨none, rfl, Same.refl _⟩ ?_ ?_ ?_⟩
    · rintro i σ H7 hi ⟨v5, rfl, s7⟩
      exact .inl (.inl (s7 _ _ ela))
    · rintro i lv σ H7 hi ⟨v5, rfl, s7⟩
      obtain ⟨mss, steps, LD, q1, q2, q3⟩ := aln _ (List.mem_of_getElem? hi)
      have s27 := Same.trans (Same.trans s4 s46) s7
      dsimp only [gName]
      refine ⟨v, rfl, lv, rfl, v, lv, p, mss, steps, rfl, gp.sz, hp.mono (Same.tps s27), LD.keep s7, fun b H8 s8 hb => ⟨_, rfl, ?_⟩⟩
      refine ite2 (fun hb1 => ?_) (fun hb1 => ?_)
      · have hf1 := hb.mp hb1
        have s28 := Same.trans s27 s8
        refine ⟨u, rfl, lv, rfl, u, lv, r, mss, steps, rfl, gr.sz, hq.mono (Same.tps s28), LD.keep (Same.trans s7 s8), fun c H9 s9 hc => ⟨_, rfl, ?_⟩⟩
        cases c with
        | true =>
          refine iteF ?_
          dsimp only [tNext]
          exact ⟨_, rfl, Same.trans (Same.trans s7 s8) s9⟩
        | false =>
          refine iteT ?_
          have ea9 := s9 _ _ (s8 _ _ (s7 _ _ (s46 _ _ ea)))
          refine ⟨.ref ad, rfl, ad, _, 0, _, rfl, rfl, .inl (.inl ea9), atI_nat (j := 0) rfl, tg, "no", rfl, rfl, ?_⟩
          rcases hy with rfl | ⟨rfl, F, y⟩
          · exact q H9
          · exact absurd (hc.mpr (yes_fit hw h4 gp.pin gr.pin LD.len q1 q2 y hf1)) (by decide)
      · refine iteF ?_
        dsimp only [tNext]
        exact ⟨_, rfl, Same.trans s7 s8⟩
    · rintro σ H7 ⟨v5, rfl, s7⟩
      have ea7 := s7 _ _ (s46 _ _ ea)
      refine ⟨.ref ad, rfl, ad, _, 0, _, rfl, rfl, .inl (.inl ea7), atI_nat (j := 0) rfl, by show 2 ≤ 1000; decide, fun tt H8 s8 ntt ett => ?_⟩
      refine ⟨tg, tt, ["yes", "no"], rfl, rfl, .inr (.inl (.inl ett)), ?_⟩
      rcases hy with rfl | ⟨rfl, F, y⟩
      · exact q H8
      · exact q H8
end
def spLaw (K : PySem.W.Frag) : Sp := fun vs H Q _ => ∃ (a : Addr) (ns : List Int), vs = [.ref a] ∧ SqL K H a (ns.map V.int) ∧ ns.length ≤ 63 ∧ ∀ H', Q (.bl true) H'
theorem facts {P : Program} {w : World} {K : PySem.W.Frag} {h : Heap} {mg : Str → Option Value} {f : Addr} (X : K.In h) (G : h.Ns mainGlobals mg) (hfa : mg ("law" : Str) = some (.ref f)) (c : SaysP K) :
    ∃ fd : FuncData, (∀ (s : Shared) (v : Value), BindsTo s fd ⟨[v], []⟩ [("_law_script", v)]) ∧ ∀ base : Heap, K.In base → base.Ns mainGlobals mg → FnOk P w K mg base CX0 60 f fd ["_law_script"] (spLaw K) := by
  have W : Wd K mg := ⟨c, h, X, G⟩
  obtain ⟨fd, F⟩ := W.d.def_ 41 (d := d_law) rfl
  have h0 : d_law.dvs K = [] := rfl
  rw [h0] at F
  have bb := F.bindsA (ps := ["_law_script"]) (fun _ _ _ _ _ _ us hl => match us, hl with | [_], _ => rfl)
  have ef : f = He.fAd K d_law.at_ := by
    have z := W.glo 31 (x := "law") rfl
    rw [hfa] at z
    cases z
    rfl
  refine ⟨fd, fun s v => bb s [v] rfl, fun base KB NB => ?_⟩
  rw [ef]
  obtain ⟨oc, od, dV, kV, doc, pm, an, cdv, ct, osl, rfl, lk, hcd, _, _⟩ := F.ex
  have fo : FnOk P w K mg base CX0 23 (He.fAd K d_law.at_) _ ["_law_script"] (toSp (sqLaw K)) := fn_of lk hcd sc_law (fun vs H Q E h => by obtain ⟨a, ns, rfl, _⟩ := h; rfl) fun A outer s H vs Q E hr hsp => by
    obtain ⟨t, h, q⟩ := law_body W _ cdv A outer s H vs Q E hr hsp
    exact ⟨t, h.nox, q⟩
  exact fo.mono (by decide)
end Pk
set_option maxRecDepth 100000
set_option maxHeartbeats 0
open PySem PySem.W PySem.Calls PyProof.Rows
theorem PySem.Challenge.cw_pathask_k62_whole_within_holds : PySem.Challenge.rw_pathask_k62_whole_within.Holds := by
  w_on; o_law
  refine HandSHeadRun.head_any (r := OpenLaw.row PySem.Challenge.rw_pathask_k62_whole_within) (q := view (OpenLaw.row PySem.Challenge.rw_pathask_k62_whole_within).prog [41]) (H := Pk.hk) (ob := Pk.ob) (M := 3000) (loose := Pk.loose) (d := HandSHeadRun.topDef (OpenLaw.row PySem.Challenge.rw_pathask_k62_whole_within).prog 41) (kwd := []) Pk.ob_eq
    (by kernel_rfl) (fun s => by kernel_rfl) Pk.run (by kernel_rfl) (by kernel_rfl) (by kernel_rfl) (by rfl) (by first | assumption | decide +kernel) (by decide +kernel) ⟨rfl, rfl, rfl, rfl, rfl, by decide +kernel⟩ ?hw ?hc
  case hw => w_witness2
  case hc =>
    refine L2.walk_ofE (l := PySem.Challenge.rw_pathask_k62_whole_within) (n := 63) (k := 60) (x := "_law_script") (CX := L2.CX0) rfl (by decide) (by kernel_rfl) ⟨rfl, by decide, by decide⟩ ?F (fun _ _ _ _ z => z)
    intro w mg fa h Y G hmg0
    obtain ⟨K, KX, c⟩ := Y
    have hmg : mg ("law" : PySem.Str) = some (.ref fa) := by
      have e : (HandSHeadRun.topDef (OpenLaw.row PySem.Challenge.rw_pathask_k62_whole_within).prog 41).name = ("law" : PySem.Str) := by kernel_rfl
      rw [← e]
      exact hmg0
    obtain ⟨fd, hb, hF⟩ := Pk.facts (P := (PySem.Challenge.rw_pathask_k62_whole_within).prog) (w := w) KX G hmg c
    exact ⟨K, fd, Pk.spLaw K, KX, hb, fun H a ns hl _ hS => ⟨a, ns, rfl, hS, hl, fun _ => rfl⟩, hF⟩
