import PyProof.Rows.All
import Wide.All
import OpenK.AllK
import Wide.FinOn
import PySem.Challenge.RW_steadycover_k04_whole_consensus
import PyProof.EqAt
import PyProof.EqKinds
import PyProof.TupleCall
import HandS.Comp
import HandS.Text
import HandS.ForMost
import HandS.ForExc
import HandS.Walk
import HandS.IsInst
import KE.GoesNew
set_option Elab.async false
set_option linter.all false
set_option maxRecDepth 100000
set_option maxHeartbeats 2000000
/-! # OI: data, what holds them, states -/
namespace OI
open PySem L2

/-- plain data; a list's flag: owned (nothing else holds it) -/
inductive D where
  | non
  | bl (b : Bool)
  | int (i : Int)
  | str (s : List Nat)
  | lst (o : Bool) (xs : List D)
  | tup (xs : List D)

mutual
def own : D → Bool
  | .lst o _ => o
  | .tup xs => ownL xs
  | _ => false
def ownL : List D → Bool
  | [] => false
  | d :: ds => own d || ownL ds
end
mutual
def frz : D → D
  | .lst true xs => .lst false (frzL xs)
  | .tup xs => .tup (frzL xs)
  | d => d
def frzL : List D → List D
  | [] => []
  | d :: ds => frz d :: frzL ds
end

mutual
def Rep (K : PySem.W.Frag) (M H : Hp) : D → V → List Addr → Prop
  | .non, v, F => v = .non ∧ F = []
  | .bl b, v, F => v = .bl b ∧ F = []
  | .int i, v, F => v = .int i ∧ F = []
  | .str s, v, F => v = .str ⟨s.toArray⟩ ∧ F = [] ∧ s.length ≤ sizeLine
  | .lst true xs, v, F => ∃ a vs F', v = .ref a ∧ F = a :: F' ∧ H a = some (.lst vs) ∧ Reps K M H xs vs F'
  | .lst false xs, v, F => ∃ a vs, v = .ref a ∧ F = [] ∧ SqL K M a vs ∧ Reps K M H xs vs []
  | .tup xs, v, F => ∃ a vs, v = .ref a ∧ SqT K M a vs ∧ Reps K M H xs vs F
def Reps (K : PySem.W.Frag) (M H : Hp) : List D → List V → List Addr → Prop
  | [], vs, F => vs = [] ∧ F = []
  | d :: ds, vs, F => ∃ v vr F1 F2, vs = v :: vr ∧ F = F1 ++ F2 ∧ Rep K M H d v F1 ∧ Reps K M H ds vr F2
end

theorem sqT_mono {K : PySem.W.Frag} {H H' : Hp} {a : Addr} {xs : List V} (e : ∀ b o, H b = some o → H' b = some o) (h : SqT K H a xs) : SqT K H' a xs := by
  rcases h with (h | ⟨o, h⟩) | h
  · exact .inl (.inl (e _ _ h))
  · exact .inl (.inr ⟨o, e _ _ h⟩)
  · exact .inr h
mutual
theorem Rep.mono {K : PySem.W.Frag} {M H M' H' : Hp} (hm : ∀ b o, M b = some o → M' b = some o) : ∀ {d : D} {v : V} {F : List Addr}, (∀ a ∈ F, H' a = H a) → Rep K M H d v F → Rep K M' H' d v F
  | .non, _, _, _, h => h
  | .bl _, _, _, _, h => h
  | .int _, _, _, _, h => h
  | .str _, _, _, _, h => h
  | .lst true xs, v, F, k, h => by
    unfold Rep at h ⊢
    obtain ⟨a, vs, F', e1, e2, e3, h4⟩ := h
    subst e2
    exact ⟨a, vs, F', e1, rfl, (k a (List.mem_cons_self ..)).trans e3, Reps.mono hm (fun b hb => k b (List.mem_cons_of_mem _ hb)) h4⟩
  | .lst false xs, v, F, k, h => by
    unfold Rep at h ⊢
    obtain ⟨a, vs, e1, e2, e3, h4⟩ := h
    exact ⟨a, vs, e1, e2, Same.seq (H := M) (H' := M') hm e3, Reps.mono hm (fun b hb => nomatch hb) h4⟩
  | .tup xs, v, F, k, h => by
    unfold Rep at h ⊢
    obtain ⟨a, vs, e1, e3, h4⟩ := h
    exact ⟨a, vs, e1, sqT_mono hm e3, Reps.mono hm k h4⟩
theorem Reps.mono {K : PySem.W.Frag} {M H M' H' : Hp} (hm : ∀ b o, M b = some o → M' b = some o) : ∀ {ds : List D} {vs : List V} {F : List Addr}, (∀ a ∈ F, H' a = H a) → Reps K M H ds vs F → Reps K M' H' ds vs F
  | [], _, _, _, h => h
  | d :: ds, vs, F, k, h => by
    unfold Reps at h ⊢
    obtain ⟨v, vr, F1, F2, e1, e2, h1, h2⟩ := h
    subst e2
    exact ⟨v, vr, F1, F2, e1, rfl, Rep.mono hm (fun b hb => k b (List.mem_append_left _ hb)) h1, Reps.mono hm (fun b hb => k b (List.mem_append_right _ hb)) h2⟩
end
/- owned cells stand in the heap -/
mutual
theorem Rep.live {K : PySem.W.Frag} {M H : Hp} : ∀ {d : D} {v : V} {F : List Addr}, Rep K M H d v F → ∀ a ∈ F, H a ≠ none
  | .non, _, _, h => by unfold Rep at h; rw [h.2]; intro a z; cases z
  | .bl _, _, _, h => by unfold Rep at h; rw [h.2]; intro a z; cases z
  | .int _, _, _, h => by unfold Rep at h; rw [h.2]; intro a z; cases z
  | .str _, _, _, h => by unfold Rep at h; rw [h.2.1]; intro a z; cases z
  | .lst true xs, v, F, h => by
    unfold Rep at h
    obtain ⟨a, vs, F', e1, e2, e3, h4⟩ := h
    subst e2
    intro b hb
    rcases List.mem_cons.mp hb with z | z
    · rw [z, e3]; exact fun q => nomatch q
    · exact Reps.live h4 b z
  | .lst false xs, v, F, h => by
    unfold Rep at h
    obtain ⟨a, vs, e1, e2, _⟩ := h
    rw [e2]; intro a z; cases z
  | .tup xs, v, F, h => by
    unfold Rep at h
    obtain ⟨a, vs, e1, e3, h4⟩ := h
    exact Reps.live h4
theorem Reps.live {K : PySem.W.Frag} {M H : Hp} : ∀ {ds : List D} {vs : List V} {F : List Addr}, Reps K M H ds vs F → ∀ a ∈ F, H a ≠ none
  | [], _, _, h => by unfold Reps at h; rw [h.2]; intro a z; cases z
  | d :: ds, vs, F, h => by
    unfold Reps at h
    obtain ⟨v, vr, F1, F2, e1, e2, h1, h2⟩ := h
    subst e2
    intro b hb
    rcases List.mem_append.mp hb with z | z
    · exact Rep.live h1 b z
    · exact Reps.live h2 b z
end
/- what is not owned has no cells of its own -/
mutual
theorem Rep.bare {K : PySem.W.Frag} {M H : Hp} : ∀ {d : D} {v : V} {F : List Addr}, own d = false → Rep K M H d v F → F = []
  | .non, _, _, _, h => by unfold Rep at h; exact h.2
  | .bl _, _, _, _, h => by unfold Rep at h; exact h.2
  | .int _, _, _, _, h => by unfold Rep at h; exact h.2
  | .str _, _, _, _, h => by unfold Rep at h; exact h.2.1
  | .lst true xs, v, F, z, h => by unfold own at z; cases z
  | .lst false xs, v, F, _, h => by
    unfold Rep at h
    obtain ⟨a, vs, e1, e2, _⟩ := h
    exact e2
  | .tup xs, v, F, z, h => by
    unfold Rep at h
    unfold own at z
    obtain ⟨a, vs, e1, e3, h4⟩ := h
    exact Reps.bare z h4
theorem Reps.bare {K : PySem.W.Frag} {M H : Hp} : ∀ {ds : List D} {vs : List V} {F : List Addr}, ownL ds = false → Reps K M H ds vs F → F = []
  | [], _, _, _, h => by unfold Reps at h; exact h.2
  | d :: ds, vs, F, z, h => by
    unfold Reps at h
    unfold ownL at z
    obtain ⟨z1, z2⟩ := Bool.or_eq_false_iff.mp z
    obtain ⟨v, vr, F1, F2, e1, e2, h1, h2⟩ := h
    rw [e2, Rep.bare z1 h1, Reps.bare z2 h2]; rfl
end
/- freezing: the owned cells go over to the shared part -/
mutual
theorem Rep.freeze {K : PySem.W.Frag} {M H M' : Hp} (hm : ∀ b o, M b = some o → M' b = some o) : ∀ {d : D} {v : V} {F : List Addr}, (∀ a ∈ F, M' a = H a) → Rep K M H d v F → Rep K M' H (frz d) v []
  | .non, _, _, _, h => by unfold Rep at h; unfold frz Rep; exact ⟨h.1, rfl⟩
  | .bl _, _, _, _, h => by unfold Rep at h; unfold frz Rep; exact ⟨h.1, rfl⟩
  | .int _, _, _, _, h => by unfold Rep at h; unfold frz Rep; exact ⟨h.1, rfl⟩
  | .str _, _, _, _, h => by unfold Rep at h; unfold frz Rep; exact ⟨h.1, rfl, h.2.2⟩
  | .lst true xs, v, F, k, h => by
    unfold Rep at h
    unfold frz Rep
    obtain ⟨a, vs, F', e1, e2, e3, h4⟩ := h
    subst e2
    refine ⟨a, vs, e1, rfl, .inl (.inl ((k a (List.mem_cons_self ..)).trans e3)), Reps.freeze hm (fun b hb => k b (List.mem_cons_of_mem _ hb)) h4⟩
  | .lst false xs, v, F, k, h => by
    unfold frz
    unfold Rep at h ⊢
    obtain ⟨a, vs, e1, e2, e3, h4⟩ := h
    exact ⟨a, vs, e1, rfl, Same.seq (H := M) (H' := M') hm e3, Reps.mono hm (fun b hb => nomatch hb) h4⟩
  | .tup xs, v, F, k, h => by
    unfold Rep at h
    unfold frz Rep
    obtain ⟨a, vs, e1, e3, h4⟩ := h
    exact ⟨a, vs, e1, sqT_mono hm e3, Reps.freeze hm k h4⟩
theorem Reps.freeze {K : PySem.W.Frag} {M H M' : Hp} (hm : ∀ b o, M b = some o → M' b = some o) : ∀ {ds : List D} {vs : List V} {F : List Addr}, (∀ a ∈ F, M' a = H a) → Reps K M H ds vs F → Reps K M' H (frzL ds) vs []
  | [], _, _, _, h => by unfold Reps at h; unfold frzL Reps; exact ⟨h.1, rfl⟩
  | d :: ds, vs, F, k, h => by
    unfold Reps at h
    unfold frzL Reps
    obtain ⟨v, vr, F1, F2, e1, e2, h1, h2⟩ := h
    subst e2
    exact ⟨v, vr, [], [], e1, rfl, Rep.freeze hm (fun b hb => k b (List.mem_append_left _ hb)) h1, Reps.freeze hm (fun b hb => k b (List.mem_append_right _ hb)) h2⟩
end

/-! ### lists of data -/
theorem Reps.length {K : PySem.W.Frag} {M H : Hp} : ∀ {ds : List D} {vs : List V} {F : List Addr}, Reps K M H ds vs F → vs.length = ds.length
  | [], _, _, h => by unfold Reps at h; rw [h.1]; rfl
  | d :: ds, vs, F, h => by
    unfold Reps at h
    obtain ⟨v, vr, F1, F2, e1, e2, h1, h2⟩ := h
    rw [e1, List.length_cons, List.length_cons, Reps.length h2]
theorem Reps.get {K : PySem.W.Frag} {M H : Hp} : ∀ {ds : List D} {vs : List V} {F : List Addr} {i : Nat} {d : D}, Reps K M H ds vs F → ds[i]? = some d → ∃ v F', vs[i]? = some v ∧ Rep K M H d v F' ∧ ∀ a, F'.count a ≤ F.count a
  | [], _, _, _, _, _, e => by simp at e
  | d :: ds, vs, F, 0, x, h, e => by
    unfold Reps at h
    obtain ⟨v, vr, F1, F2, e1, e2, h1, h2⟩ := h
    have e' : d = x := by simpa using e
    subst e' e1 e2
    exact ⟨v, F1, rfl, h1, fun a => by rw [List.count_append]; omega⟩
  | d :: ds, vs, F, i + 1, x, h, e => by
    unfold Reps at h
    obtain ⟨v, vr, F1, F2, e1, e2, h1, h2⟩ := h
    subst e1 e2
    obtain ⟨w, F', g1, g2, g3⟩ := Reps.get (i := i) (d := x) h2 (by simpa using e)
    exact ⟨w, F', by simpa using g1, g2, fun a => by rw [List.count_append]; have := g3 a; omega⟩
theorem Reps.append {K : PySem.W.Frag} {M H : Hp} : ∀ {ds es : List D} {vs us : List V} {F G : List Addr}, Reps K M H ds vs F → Reps K M H es us G → Reps K M H (ds ++ es) (vs ++ us) (F ++ G)
  | [], es, vs, us, F, G, h, g => by
    unfold Reps at h
    rw [h.1, h.2]; exact g
  | d :: ds, es, vs, us, F, G, h, g => by
    unfold Reps at h
    obtain ⟨v, vr, F1, F2, e1, e2, h1, h2⟩ := h
    subst e1 e2
    show Reps K M H (d :: (ds ++ es)) (v :: (vr ++ us)) (F1 ++ F2 ++ G)
    unfold Reps
    exact ⟨v, vr ++ us, F1, F2 ++ G, rfl, by rw [List.append_assoc], h1, Reps.append h2 g⟩
theorem Reps.one {K : PySem.W.Frag} {M H : Hp} {d : D} {v : V} {F : List Addr} (h : Rep K M H d v F) : Reps K M H [d] [v] F := by
  unfold Reps
  exact ⟨v, [], F, [], rfl, by simp, h, by unfold Reps; exact ⟨rfl, rfl⟩⟩
theorem Reps.cons {K : PySem.W.Frag} {M H : Hp} {d : D} {ds : List D} {v : V} {vs : List V} {F G : List Addr} (h : Rep K M H d v F) (g : Reps K M H ds vs G) : Reps K M H (d :: ds) (v :: vs) (F ++ G) := by
  unfold Reps
  exact ⟨v, vs, F, G, rfl, rfl, h, g⟩
theorem Reps.nil {K : PySem.W.Frag} {M H : Hp} : Reps K M H [] [] [] := by unfold Reps; exact ⟨rfl, rfl⟩
theorem Reps.inv {K : PySem.W.Frag} {M H : Hp} {d : D} {ds : List D} {vs : List V} {F : List Addr} (h : Reps K M H (d :: ds) vs F) : ∃ v vr F1 F2, vs = v :: vr ∧ F = F1 ++ F2 ∧ Rep K M H d v F1 ∧ Reps K M H ds vr F2 := by
  unfold Reps at h; exact h
theorem Reps.inv0 {K : PySem.W.Frag} {M H : Hp} {vs : List V} {F : List Addr} (h : Reps K M H [] vs F) : vs = [] ∧ F = [] := by
  unfold Reps at h; exact h
theorem Reps.take {K : PySem.W.Frag} {M H : Hp} : ∀ {ds : List D} {vs : List V} (n : Nat), Reps K M H ds vs [] → Reps K M H (ds.take n) (vs.take n) []
  | [], _, n, h => by obtain ⟨e, _⟩ := h.inv0; subst e; simpa using Reps.nil
  | d :: ds, vs, 0, h => by simpa using Reps.nil
  | d :: ds, vs, n + 1, h => by
    obtain ⟨v, vr, F1, F2, e1, e2, h1, h2⟩ := h.inv
    obtain ⟨z1, z2⟩ := List.append_eq_nil_iff.mp e2.symm
    subst e1 z1 z2
    simpa using Reps.cons h1 (Reps.take n h2)
theorem Reps.drop {K : PySem.W.Frag} {M H : Hp} : ∀ {ds : List D} {vs : List V} (n : Nat), Reps K M H ds vs [] → Reps K M H (ds.drop n) (vs.drop n) []
  | [], _, n, h => by obtain ⟨e, _⟩ := h.inv0; subst e; simpa using Reps.nil
  | d :: ds, vs, 0, h => by simpa using h
  | d :: ds, vs, n + 1, h => by
    obtain ⟨v, vr, F1, F2, e1, e2, h1, h2⟩ := h.inv
    obtain ⟨z1, z2⟩ := List.append_eq_nil_iff.mp e2.symm
    subst e1 z1 z2
    simpa using Reps.drop n h2

/-! ### the slots -/
abbrev En := List (Option D)
def REnv (K : PySem.W.Frag) (M H : Hp) : En → St → List Addr → Prop
  | [], σ, F => σ = [] ∧ F = []
  | none :: es, σ, F => ∃ x r, σ = x :: r ∧ REnv K M H es r F
  | some d :: es, σ, F => ∃ v r F1 F2, σ = some v :: r ∧ F = F1 ++ F2 ∧ Rep K M H d v F1 ∧ REnv K M H es r F2
theorem REnv.mono {K : PySem.W.Frag} {M H M' H' : Hp} (hm : ∀ b o, M b = some o → M' b = some o) : ∀ {e : En} {σ : St} {F : List Addr}, (∀ a ∈ F, H' a = H a) → REnv K M H e σ F → REnv K M' H' e σ F
  | [], _, _, _, h => h
  | none :: es, σ, F, k, h => by
    obtain ⟨x, r, e1, h2⟩ := h
    exact ⟨x, r, e1, REnv.mono hm k h2⟩
  | some d :: es, σ, F, k, h => by
    obtain ⟨v, r, F1, F2, e1, e2, h1, h2⟩ := h
    subst e2
    exact ⟨v, r, F1, F2, e1, rfl, h1.mono hm (fun b hb => k b (List.mem_append_left _ hb)), REnv.mono hm (fun b hb => k b (List.mem_append_right _ hb)) h2⟩
theorem REnv.live {K : PySem.W.Frag} {M H : Hp} : ∀ {e : En} {σ : St} {F : List Addr}, REnv K M H e σ F → ∀ a ∈ F, H a ≠ none
  | [], _, _, h => by rw [h.2]; intro a z; cases z
  | none :: es, σ, F, h => by
    obtain ⟨x, r, e1, h2⟩ := h
    exact REnv.live h2
  | some d :: es, σ, F, h => by
    obtain ⟨v, r, F1, F2, e1, e2, h1, h2⟩ := h
    subst e2
    intro b hb
    rcases List.mem_append.mp hb with z | z
    · exact h1.live b z
    · exact REnv.live h2 b z
theorem REnv.length {K : PySem.W.Frag} {M H : Hp} : ∀ {e : En} {σ : St} {F : List Addr}, REnv K M H e σ F → σ.length = e.length
  | [], _, _, h => by rw [h.1]; rfl
  | none :: es, σ, F, h => by
    obtain ⟨x, r, e1, h2⟩ := h
    rw [e1, List.length_cons, List.length_cons, REnv.length h2]
  | some d :: es, σ, F, h => by
    obtain ⟨v, r, F1, F2, e1, e2, h1, h2⟩ := h
    rw [e1, List.length_cons, List.length_cons, REnv.length h2]
/-- a slot is taken out -/
theorem REnv.out {K : PySem.W.Frag} {M H : Hp} : ∀ {e : En} {σ : St} {F : List Addr} {i : Nat} {d : D}, REnv K M H e σ F → e[i]? = some (some d) →
    ∃ v F1 F2, σ[i]? = some (some v) ∧ Rep K M H d v F1 ∧ REnv K M H (e.set i none) σ F2 ∧ ∀ a, F.count a = F1.count a + F2.count a
  | [], _, _, _, _, _, q => by simp at q
  | none :: es, σ, F, 0, d, h, q => by simp at q
  | none :: es, σ, F, i + 1, d, h, q => by
    obtain ⟨x, r, e1, h2⟩ := h
    obtain ⟨v, F1, F2, g1, g2, g3, g4⟩ := REnv.out (i := i) h2 (by simpa using q)
    subst e1
    exact ⟨v, F1, F2, by simpa using g1, g2, ⟨x, r, rfl, g3⟩, g4⟩
  | some d' :: es, σ, F, 0, d, h, q => by
    obtain ⟨v, r, F1, F2, e1, e2, h1, h2⟩ := h
    have e : d' = d := by simpa using q
    subst e e1 e2
    exact ⟨v, F1, F2, rfl, h1, ⟨some v, r, rfl, h2⟩, fun a => by rw [List.count_append]⟩
  | some d' :: es, σ, F, i + 1, d, h, q => by
    obtain ⟨v, r, F1, F2, e1, e2, h1, h2⟩ := h
    subst e1 e2
    obtain ⟨v', G1, G2, g1, g2, g3, g4⟩ := REnv.out (i := i) h2 (by simpa using q)
    refine ⟨v', G1, F1 ++ G2, by simpa using g1, g2, ⟨v, r, F1, G2, rfl, rfl, h1, g3⟩, fun a => ?_⟩
    rw [List.count_append, List.count_append, g4 a]; omega
/-- a slot is forgotten -/
theorem REnv.drop {K : PySem.W.Frag} {M H : Hp} : ∀ {e : En} {σ : St} {F : List Addr} (i : Nat), REnv K M H e σ F → ∃ F2, REnv K M H (e.set i none) σ F2 ∧ ∀ a, F2.count a ≤ F.count a
  | [], _, F, _, h => ⟨F, by simpa using h, fun _ => Nat.le_refl _⟩
  | none :: es, σ, F, 0, h => ⟨F, h, fun _ => Nat.le_refl _⟩
  | none :: es, σ, F, i + 1, h => by
    obtain ⟨x, r, e1, h2⟩ := h
    obtain ⟨F2, g1, g2⟩ := REnv.drop i h2
    exact ⟨F2, ⟨x, r, e1, g1⟩, g2⟩
  | some d' :: es, σ, F, 0, h => by
    obtain ⟨v, r, F1, F2, e1, e2, h1, h2⟩ := h
    subst e2
    exact ⟨F2, ⟨some v, r, e1, h2⟩, fun a => by rw [List.count_append]; omega⟩
  | some d' :: es, σ, F, i + 1, h => by
    obtain ⟨v, r, F1, F2, e1, e2, h1, h2⟩ := h
    subst e2
    obtain ⟨G, g1, g2⟩ := REnv.drop i h2
    exact ⟨F1 ++ G, ⟨v, r, F1, G, e1, rfl, h1, g1⟩, fun a => by rw [List.count_append, List.count_append]; have := g2 a; omega⟩
/-- a slot is filled -/
theorem REnv.put {K : PySem.W.Frag} {M H : Hp} {d : D} {v : V} {F1 : List Addr} (hd : Rep K M H d v F1) : ∀ {e : En} {σ : St} {F : List Addr} {i : Nat}, REnv K M H (e.set i none) σ F → i < e.length →
    ∃ F2, REnv K M H (e.set i (some d)) (σ.set i (some v)) F2 ∧ ∀ a, F2.count a = F1.count a + F.count a
  | [], _, _, _, _, q => by simp at q
  | x :: es, σ, F, 0, h, _ => by
    obtain ⟨y, r, e1, h2⟩ := h
    subst e1
    exact ⟨F1 ++ F, ⟨v, r, F1, F, rfl, rfl, hd, h2⟩, fun a => by rw [List.count_append]⟩
  | none :: es, σ, F, i + 1, h, q => by
    obtain ⟨x, r, e1, h2⟩ := h
    subst e1
    obtain ⟨F2, g1, g2⟩ := REnv.put hd (i := i) h2 (by simpa using q)
    exact ⟨F2, ⟨x, r.set i (some v), by simp, g1⟩, g2⟩
  | some d' :: es, σ, F, i + 1, h, q => by
    obtain ⟨w, r, G1, G2, e1, e2, h1, h2⟩ := h
    subst e1 e2
    obtain ⟨F2, g1, g2⟩ := REnv.put hd (i := i) h2 (by simpa using q)
    refine ⟨G1 ++ F2, ⟨w, r.set i (some v), G1, F2, by simp, rfl, h1, g1⟩, fun a => ?_⟩
    rw [List.count_append, List.count_append, g2 a]; omega
/-- .. with its own value again -/
theorem REnv.back {K : PySem.W.Frag} {M H : Hp} {d : D} {v : V} {F1 : List Addr} (hd : Rep K M H d v F1) {e : En} {σ : St} {F : List Addr} {i : Nat} (h : REnv K M H (e.set i none) σ F) (hv : σ[i]? = some (some v)) :
    ∃ F2, REnv K M H (e.set i (some d)) σ F2 ∧ ∀ a, F2.count a = F1.count a + F.count a := by
  have hl := h.length
  rw [List.length_set] at hl
  have hi : i < σ.length := (List.getElem?_eq_some_iff.mp hv).1
  obtain ⟨F2, g1, g2⟩ := REnv.put hd h (by omega)
  have e : σ.set i (some v) = σ := by
    apply List.ext_getElem?
    intro j
    by_cases hj : i = j
    · subst hj; rw [List.getElem?_set_self hi, hv]
    · rw [List.getElem?_set_ne hj]
  rw [e] at g1
  exact ⟨F2, g1, g2⟩

/-! ### the temporaries -/
abbrev Tm := List (V × D)
def RTm (K : PySem.W.Frag) (M H : Hp) : Tm → List Addr → Prop
  | [], F => F = []
  | p :: ts, F => ∃ F1 F2, F = F1 ++ F2 ∧ Rep K M H p.2 p.1 F1 ∧ RTm K M H ts F2
theorem RTm.mono {K : PySem.W.Frag} {M H M' H' : Hp} (hm : ∀ b o, M b = some o → M' b = some o) : ∀ {t : Tm} {F : List Addr}, (∀ a ∈ F, H' a = H a) → RTm K M H t F → RTm K M' H' t F
  | [], _, _, h => h
  | p :: es, F, k, h => by
    obtain ⟨F1, F2, e2, h1, h2⟩ := h
    subst e2
    exact ⟨F1, F2, rfl, h1.mono hm (fun b hb => k b (List.mem_append_left _ hb)), RTm.mono hm (fun b hb => k b (List.mem_append_right _ hb)) h2⟩
theorem RTm.live {K : PySem.W.Frag} {M H : Hp} : ∀ {t : Tm} {F : List Addr}, RTm K M H t F → ∀ a ∈ F, H a ≠ none
  | [], _, h => by rw [show _ = [] from h]; intro a z; cases z
  | p :: es, F, h => by
    obtain ⟨F1, F2, e2, h1, h2⟩ := h
    subst e2
    intro b hb
    rcases List.mem_append.mp hb with z | z
    · exact h1.live b z
    · exact RTm.live h2 b z

/-- what a def's frame is told at its entry: the heap, the shared part, the cells lent to it -/
structure Frm where
  H : Hp
  M : Hp
  B : List Addr

/-- a state: the slots hold env, the temporaries hold ts -/
structure StaM (K : PySem.W.Frag) (f : Frm) (M H : Hp) (σ : St) (env : En) (ts : Tm) (Fe Ft : List Addr) : Prop where
  mh : ∀ b o, M b = some o → H b = some o
  mm : ∀ b o, f.M b = some o → M b = some o
  mo : ∀ b o, M b = some o → f.M b = some o ∨ f.H b = none ∨ b ∈ f.B
  fr : ∀ b o, f.H b = some o → b ∉ f.B → H b = some o
  re : REnv K M H env σ Fe
  rt : RTm K M H ts Ft
  one : ∀ a, Fe.count a + Ft.count a ≤ 1
  fm : ∀ a, (a ∈ Fe ∨ a ∈ Ft) → M a = none
  fb : ∀ a, (a ∈ Fe ∨ a ∈ Ft) → a ∈ f.B ∨ f.H a = none
def Sta (K : PySem.W.Frag) (f : Frm) (H : Hp) (σ : St) (env : En) (ts : Tm) : Prop := ∃ M Fe Ft, StaM K f M H σ env ts Fe Ft
end OI

namespace OI
open PySem L2
section
variable {K : PySem.W.Frag} {f : Frm} {M H : Hp} {σ : St} {env : En} {ts : Tm} {Fe Ft : List Addr}
theorem mem_of_count {α : Type} [BEq α] [LawfulBEq α] {a : α} {l : List α} (h : 0 < l.count a) : a ∈ l := List.count_pos_iff.mp h
theorem count_mem {α : Type} [BEq α] [LawfulBEq α] {a : α} {l : List α} (h : a ∈ l) : 0 < l.count a := List.count_pos_iff.mpr h
theorem sub_of_count {l l' : List Addr} (h : ∀ a, l.count a ≤ l'.count a) {a : Addr} (m : a ∈ l) : a ∈ l' := mem_of_count (Nat.lt_of_lt_of_le (count_mem m) (h a))

theorem StaM.sta (s : StaM K f M H σ env ts Fe Ft) : Sta K f H σ env ts := ⟨M, Fe, Ft, s⟩
theorem StaM.live (s : StaM K f M H σ env ts Fe Ft) {a : Addr} (h : a ∈ Fe ∨ a ∈ Ft) : H a ≠ none := by
  rcases h with h | h
  · exact s.re.live a h
  · exact s.rt.live a h
/-- the cells of a smaller state -/
theorem StaM.re_of {env' : En} {ts' : Tm} {Fe' Ft' : List Addr} {σ' : St} (s : StaM K f M H σ env ts Fe Ft) (re : REnv K M H env' σ' Fe') (rt : RTm K M H ts' Ft') (h : ∀ a, Fe'.count a + Ft'.count a ≤ Fe.count a + Ft.count a) :
    StaM K f M H σ' env' ts' Fe' Ft' := by
  have sub : ∀ a, (a ∈ Fe' ∨ a ∈ Ft') → a ∈ Fe ∨ a ∈ Ft := fun a m => by
    have q : 0 < Fe'.count a + Ft'.count a := by
      rcases m with m | m
      · have := count_mem m; omega
      · have := count_mem m; omega
    have := h a
    by_cases z : 0 < Fe.count a
    · exact .inl (mem_of_count z)
    · exact .inr (mem_of_count (by omega))
  exact ⟨s.mh, s.mm, s.mo, s.fr, re, rt, fun a => by have := h a; have := s.one a; omega, fun a m => s.fm a (sub a m), fun a m => s.fb a (sub a m)⟩
/-- temporaries are let go -/
theorem StaM.tail {p : V × D} (s : StaM K f M H σ env (p :: ts) Fe Ft) : ∃ Ft', StaM K f M H σ env ts Fe Ft' := by
  obtain ⟨F1, F2, e, h1, h2⟩ := s.rt
  exact ⟨F2, s.re_of s.re h2 fun a => by rw [e, List.count_append]; omega⟩
theorem Sta.tail {p : V × D} (s : Sta K f H σ env (p :: ts)) : Sta K f H σ env ts := by
  obtain ⟨M, Fe, Ft, s⟩ := s
  obtain ⟨Ft', s⟩ := s.tail
  exact s.sta
theorem StaM.drops : ∀ {os : Tm} {Ft : List Addr}, StaM K f M H σ env (os ++ ts) Fe Ft → ∃ Ft', StaM K f M H σ env ts Fe Ft'
  | [], Ft, s => ⟨Ft, s⟩
  | p :: os, Ft, s => by
    obtain ⟨Ft', s'⟩ := StaM.tail (p := p) (ts := os ++ ts) s
    exact StaM.drops s'
theorem RTm.all : ∀ {t : Tm} {F : List Addr}, RTm K M H t F → ∀ p ∈ t, ∃ F', Rep K M H p.2 p.1 F'
  | [], _, _, p, m => by cases m
  | q :: t, F, h, p, m => by
    obtain ⟨F1, F2, e, h1, h2⟩ := h
    rcases List.mem_cons.mp m with z | z
    · rw [z]; exact ⟨F1, h1⟩
    · exact RTm.all h2 p z
theorem StaM.temp (s : StaM K f M H σ env ts Fe Ft) {p : V × D} (m : p ∈ ts) : ∃ F', Rep K M H p.2 p.1 F' := s.rt.all p m
theorem StaM.slot {i : Nat} {d : D} (s : StaM K f M H σ env ts Fe Ft) (h : env[i]? = some (some d)) : ∃ v F', σ[i]? = some (some v) ∧ Rep K M H d v F' := by
  obtain ⟨v, F1, F2, g1, g2, _⟩ := s.re.out h
  exact ⟨v, F1, g1, g2⟩
/-- a slot's value, nothing owned -/
theorem StaM.var {i : Nat} {d : D} (s : StaM K f M H σ env ts Fe Ft) (h : env[i]? = some (some d)) (ho : own d = false) : ∃ v, σ[i]? = some (some v) ∧ StaM K f M H σ env ((v, d) :: ts) Fe Ft := by
  obtain ⟨v, F1, F2, g1, g2, _⟩ := s.re.out h
  have e := g2.bare ho
  subst e
  exact ⟨v, g1, s.re_of s.re ⟨[], Ft, rfl, g2, s.rt⟩ fun a => Nat.le_refl _⟩
/-- .. moved out -/
theorem StaM.mov {i : Nat} {d : D} (s : StaM K f M H σ env ts Fe Ft) (h : env[i]? = some (some d)) : ∃ v Fe' Ft', σ[i]? = some (some v) ∧ StaM K f M H σ (env.set i none) ((v, d) :: ts) Fe' Ft' := by
  obtain ⟨v, F1, F2, g1, g2, g3, g4⟩ := s.re.out h
  exact ⟨v, F2, F1 ++ Ft, g1, s.re_of g3 ⟨F1, Ft, rfl, g2, s.rt⟩ fun a => by rw [List.count_append, g4 a]; omega⟩
mutual
theorem own_frz : ∀ d : D, own (frz d) = false
  | .non => rfl
  | .bl _ => rfl
  | .int _ => rfl
  | .str _ => rfl
  | .lst true xs => by unfold frz own; rfl
  | .lst false xs => by unfold frz own; rfl
  | .tup xs => by unfold frz own; exact ownL_frz xs
theorem ownL_frz : ∀ ds : List D, ownL (frzL ds) = false
  | [] => rfl
  | d :: ds => by unfold frzL ownL; rw [own_frz d, ownL_frz ds]; rfl
end
/-- the shared part with cells of the heap -/
def grow (M H : Hp) (F : List Addr) : Hp := fun a => if a ∈ F then H a else M a
theorem grow_in {M H : Hp} {F : List Addr} {a : Addr} (h : a ∈ F) : grow M H F a = H a := if_pos h
theorem grow_out {M H : Hp} {F : List Addr} {a : Addr} (h : a ∉ F) : grow M H F a = M a := if_neg h
/-- a temporary is frozen -/
theorem StaM.freeze {v : V} {d : D} (s : StaM K f M H σ env ((v, d) :: ts) Fe Ft) : ∃ M' Ft', StaM K f M' H σ env ((v, frz d) :: ts) Fe Ft' ∧ ∀ b o, M b = some o → M' b = some o := by
  obtain ⟨F1, F2, e, h1, h2⟩ := s.rt
  subst e
  have nin : ∀ a ∈ F1, a ∉ Fe ∧ a ∉ F2 := fun a m => by
    have q := s.one a
    rw [List.count_append] at q
    have := count_mem m
    exact ⟨fun z => by have := count_mem z; omega, fun z => by have := count_mem z; omega⟩
  have hm : ∀ b o, M b = some o → grow M H F1 b = some o := fun b o e => by
    by_cases z : b ∈ F1
    · rw [grow_in z]; exact s.mh b o e
    · rw [grow_out z]; exact e
  refine ⟨grow M H F1, F2, ⟨fun b o e => ?_, fun b o e => hm b o (s.mm b o e), fun b o e => ?_, s.fr, s.re.mono hm fun _ _ => rfl, ⟨[], F2, rfl, h1.freeze hm fun a m => grow_in m, h2.mono hm fun _ _ => rfl⟩, fun a => ?_, fun a m => ?_, fun a m => ?_⟩, hm⟩
  · by_cases z : b ∈ F1
    · rw [grow_in z] at e; exact e
    · rw [grow_out z] at e; exact s.mh b o e
  · by_cases z : b ∈ F1
    · rcases s.fb b (.inr (List.mem_append_left _ z)) with q | q
      · exact .inr (.inr q)
      · exact .inr (.inl q)
    · rw [grow_out z] at e; exact s.mo b o e
  · have q := s.one a
    rw [List.count_append] at q
    omega
  · have z : a ∉ F1 := fun z => by
      rcases m with m | m
      · exact (nin a z).1 m
      · exact (nin a z).2 m
    rw [grow_out z]
    exact s.fm a (m.imp id fun m => List.mem_append_right _ m)
  · exact s.fb a (m.imp id fun m => List.mem_append_right _ m)
/-- a temporary goes into a slot -/
theorem StaM.assign {v : V} {d : D} {i : Nat} (s : StaM K f M H σ env ((v, d) :: ts) Fe Ft) (hi : i < env.length) : Sta K f H (σ.set i (some v)) (env.set i (some d)) ts := by
  obtain ⟨F1, F2, e, h1, h2⟩ := s.rt
  obtain ⟨G, g1, g2⟩ := s.re.drop i
  obtain ⟨G2, k1, k2⟩ := REnv.put h1 g1 hi
  exact (s.re_of k1 h2 fun a => by rw [k2 a, e, List.count_append]; have := g2 a; omega).sta
/-- a slot's value as it is, frozen -/
theorem StaM.varF {i : Nat} {d : D} (s : StaM K f M H σ env ts Fe Ft) (h : env[i]? = some (some d)) : ∃ v, σ[i]? = some (some v) ∧ Sta K f H σ (env.set i (some (frz d))) ((v, frz d) :: ts) := by
  obtain ⟨v, Fe1, Ft1, g1, s1⟩ := s.mov h
  obtain ⟨M2, Ft2, s2, _⟩ := s1.freeze
  obtain ⟨F1, F2, e, h1, h2⟩ := s2.rt
  have z := h1.bare (own_frz d)
  subst z
  obtain ⟨G, k1, k2⟩ := REnv.back h1 s2.re g1
  exact ⟨v, g1, (s2.re_of k1 s2.rt fun a => by rw [k2 a]; simp).sta⟩
/-- a new cell -/
theorem StaM.laid {p : Addr} {o : HO} (s : StaM K f M H σ env ts Fe Ft) (hp : H p = none) : StaM K f M (upd H p o) σ env ts Fe Ft ∧ p ∉ Fe ∧ p ∉ Ft ∧ M p = none ∧ (p ∈ f.B ∨ f.H p = none) := by
  have ne : ∀ a, (a ∈ Fe ∨ a ∈ Ft) → a ≠ p := fun a m z => s.live m (by rw [z]; exact hp)
  have np : M p = none := by
    cases q : M p with
    | none => rfl
    | some u => rw [s.mh p u q] at hp; cases hp
  refine ⟨⟨fun b u e => ?_, s.mm, s.mo, fun b u e nb => ?_, s.re.mono (fun _ _ e => e) fun a m => upd_ne (ne a (.inl m)), s.rt.mono (fun _ _ e => e) fun a m => upd_ne (ne a (.inr m)), s.one, s.fm, s.fb⟩, fun m => ne p (.inl m) rfl, fun m => ne p (.inr m) rfl, np, ?_⟩
  · rw [upd_ne (fun z => by rw [z, np] at e; cases e)]; exact s.mh b u e
  · have q := s.fr b u e nb
    rw [upd_ne (fun z => by rw [z, hp] at q; cases q)]; exact q
  · by_cases hb : p ∈ f.B
    · exact .inl hb
    · cases q : f.H p with
      | none => exact .inr rfl
      | some u => rw [s.fr p u q hb] at hp; cases hp
/-- a new list, owned, of shared items -/
theorem StaM.newL {p : Addr} {xs : List D} {vs : List V} (s : StaM K f M H σ env ts Fe Ft) (hp : H p = none) (hx : Reps K M H xs vs []) : Sta K f (upd H p (.lst vs)) σ env ((.ref p, .lst true xs) :: ts) := by
  obtain ⟨s1, n1, n2, n3, n4⟩ := s.laid (o := .lst vs) hp
  refine ⟨M, Fe, p :: Ft, s1.mh, s1.mm, s1.mo, s1.fr, s1.re, ⟨[p], Ft, rfl, ?_, s1.rt⟩, fun a => ?_, fun a m => ?_, fun a m => ?_⟩
  · unfold Rep
    exact ⟨p, vs, [], rfl, rfl, upd_same, hx.mono (fun _ _ e => e) fun a m => by cases m⟩
  · have q := s1.one a
    rw [List.count_cons]
    by_cases e : p = a
    · subst e
      have e1 : Fe.count p = 0 := List.count_eq_zero.mpr n1
      have e2 : Ft.count p = 0 := List.count_eq_zero.mpr n2
      simp [e1, e2]
    · have : (p == a) = false := by simpa using e
      simp [this]; exact q
  · rcases m with m | m
    · exact s1.fm a (.inl m)
    · rcases List.mem_cons.mp m with z | z
      · rw [z]; exact n3
      · exact s1.fm a (.inr z)
  · rcases m with m | m
    · exact s1.fb a (.inl m)
    · rcases List.mem_cons.mp m with z | z
      · rw [z]; exact n4
      · exact s1.fb a (.inr z)
/-- a new cell that goes to the shared part -/
theorem StaM.laidM {p : Addr} {o : HO} (s : StaM K f M H σ env ts Fe Ft) (hp : H p = none) : StaM K f (upd M p o) (upd H p o) σ env ts Fe Ft ∧ ∀ b u, M b = some u → upd M p o b = some u := by
  obtain ⟨s1, n1, n2, n3, n4⟩ := s.laid (o := o) hp
  have hm : ∀ b u, M b = some u → upd M p o b = some u := fun b u e => by rw [upd_ne (fun z => by rw [z, n3] at e; cases e)]; exact e
  refine ⟨⟨fun b u e => ?_, fun b u e => hm b u (s1.mm b u e), fun b u e => ?_, s1.fr, s1.re.mono hm fun _ _ => rfl, s1.rt.mono hm fun _ _ => rfl, s1.one, fun a m => ?_, s1.fb⟩, hm⟩
  · by_cases z : b = p
    · subst z; rw [upd_same] at e ⊢; exact e
    · rw [upd_ne z] at e; exact s1.mh b u e
  · by_cases z : b = p
    · subst z
      rcases n4 with q | q
      · exact .inr (.inr q)
      · exact .inr (.inl q)
    · rw [upd_ne z] at e; exact s1.mo b u e
  · rw [upd_ne (fun z => by
      rcases m with m | m
      · rw [z] at m; exact n1 m
      · rw [z] at m; exact n2 m)]
    exact s1.fm a m
/-- a new tuple of shared items -/
theorem StaM.newT {p : Addr} {xs : List D} {vs : List V} (s : StaM K f M H σ env ts Fe Ft) (hp : H p = none) (hx : Reps K M H xs vs []) : Sta K f (upd H p (.tup vs)) σ env ((.ref p, .tup xs) :: ts) := by
  obtain ⟨s1, hm⟩ := s.laidM (o := .tup vs) hp
  refine (s1.re_of s1.re (ts' := (.ref p, .tup xs) :: ts) (Ft' := Ft) ⟨[], Ft, rfl, ?_, s1.rt⟩ fun a => Nat.le_refl _).sta
  unfold Rep
  exact ⟨p, vs, rfl, .inl (.inl upd_same), hx.mono hm fun a m => by cases m⟩
end
end OI

/-! the small language, its meaning -/
namespace OI
open PySem L2
inductive P2 where
  | add | sub | mul | fdiv | mod | pow | eq | ne | lt | le | gt | ge | inn | nin | isN | notN | idx
  deriving DecidableEq
inductive P1 where
  | neg | len | int | join
  deriving DecidableEq
inductive Ty where
  | int | str | bool | list | tuple
  deriving DecidableEq
/-- the answer of a primitive: a shared datum, a new list, a new tuple -/
inductive PR where
  | val (d : D) | newl (xs : List D) | newt (xs : List D)
def PR.dat : PR → D
  | .val d => d
  | .newl xs => .lst true xs
  | .newt xs => .tup xs
/-- an operand: a datum, or the slot that is only looked at -/
inductive R where
  | d (x : D) | pk (i : Nat)
inductive CE where
  | cst (d : D) | gc (k : Nat) | var (i : Nat) | mov (i : Nat) | pk (i : Nat)
  | p1 (p : P1) (a : CE) | p2 (p : P2) (a b : CE)
  | isi (a : CE) (t : Ty)
  | slc (a lo hi : CE) | noE | so (a : CE) | itv (a : CE)
  | tupE (a : CE) | lstE (a : CE) | nil | cons (a as : CE)
  | call (f : Nat) (as : CE)
  | one (a : CE) | and_ (a b : CE) | or_ (a b : CE) | not_ (a : CE)
  | ifE (t a b : CE)
  | rng1 (a : CE) | rng2 (a b : CE) | enu (a : CE)
  | lc (is : List Nat) (tup q : Bool) (it c a : CE)
inductive CS where
  | skip | seq (a b : CS) | asg (i : Nat) (e : CE) | app (i : Nat) (e : CE) | ex (e : CE) | ret (e : CE) | retN
  | ite (t : CE) (a b : CS) | for1 (i : Nat) (it : CE) (b : CS) | forT (is : List Nat) (it : CE) (b : CS) | never

structure Xn where
  c : Nat
  f : Option D
inductive Out (α : Type) where
  | ok (a : α) (e : En) | exc (x : Xn) (e : En) | bad
def Out.bind {α β : Type} : Out α → (α → En → Out β) → Out β
  | .ok a e, f => f a e
  | .exc x e, _ => .exc x e
  | .bad, _ => .bad
def res (e : En) : R → Option D
  | .d x => some x
  | .pk i => (e[i]?).join
def resL (e : En) : List R → Option (List D)
  | [] => some []
  | r :: rs => match res e r, resL e rs with
    | some x, some xs => some (x :: xs)
    | _, _ => none

def two64 : Int := 18446744073709551616
def mulOk (i j : Int) : Bool := (decide (-two64 < i) && decide (i < two64)) || (decide (-two64 < j) && decide (j < two64))
def lineN : Nat := 16777216
/-- a place of a list, from the end where it is negative -/
def at_ {α : Type} (xs : List α) (i : Int) : Option α :=
  if 0 ≤ i then xs[i.toNat]? else if -(xs.length : Int) ≤ i then xs[(i + xs.length).toNat]? else none
/-- equal scalars -/
def eqS : D → D → Option Bool
  | .non, .non => some true
  | .non, .int _ => some false
  | .int _, .non => some false
  | .non, .bl _ => some false
  | .bl _, .non => some false
  | .non, .str _ => some false
  | .str _, .non => some false
  | .int i, .int j => some (decide (i = j))
  | .bl i, .bl j => some (decide (i = j))
  | .str i, .str j => some (decide (i = j))
  | .int _, .str _ => some false
  | .str _, .int _ => some false
  | .bl _, .str _ => some false
  | .str _, .bl _ => some false
  | _, _ => none
mutual
/-- a datum in the model's words -/
def toP : D → PyData
  | .non => .none
  | .bl b => .bool b
  | .int i => .int i
  | .str s => .str ⟨s.toArray⟩
  | .lst _ xs => .list (toPs xs)
  | .tup xs => .tuple (toPs xs)
def toPs : List D → List PyData
  | [] => []
  | d :: ds => toP d :: toPs ds
end
def eqP (a b : D) : Option Bool := if SeqAt.shaped (toP a) && SeqAt.shaped (toP b) then some (PyData.eqv (toP a) (toP b)) else none
def pEq (a b : D) : Option Bool := match eqS a b with
  | some k => some k
  | none => eqP a b
def strL : List D → Option (List (List Nat))
  | [] => some []
  | .str s :: r => (strL r).map fun l => s :: l
  | _ => none
def shr (d : D) : Option PR := if own d then none else some (.val d)
def pAdd : D → D → Option PR
  | .int i, .int j => some (.val (.int (i + j)))
  | .str s, .str t => if s.length + t.length ≤ lineN then some (.val (.str (s ++ t))) else none
  | _, _ => none
def pInt (g : Int → Int → Option PR) : D → D → Option PR
  | .int i, .int j => g i j
  | _, _ => none
def flat : D → Bool
  | .lst _ _ => false
  | .tup _ => false
  | _ => true
/-- == of flat data -/
def eqF : D → D → Bool
  | .non, .non => true
  | .bl a, .bl b => a == b
  | .bl a, .int b => (if a then 1 else 0) == b
  | .int a, .bl b => a == (if b then 1 else 0)
  | .int a, .int b => a == b
  | .str a, .str b => decide (a = b)
  | _, _ => false
def inL (x : D) (xs : List D) : Option Bool := if flat x && xs.all flat then some (xs.any fun y => eqF y x) else none
def pIn : D → D → Option Bool
  | .str [c], .str z => some (decide (c ∈ z))
  | x, .lst _ xs => inL x xs
  | x, .tup xs => inL x xs
  | _, _ => none
def pIdx : D → D → Option PR
  | .lst _ xs, .int i => (at_ xs i).bind shr
  | .tup xs, .int i => (at_ xs i).bind shr
  | .str s, .int i => (at_ s i).map fun c => .val (.str [c])
  | _, _ => none
def pIs : D → D → Option Bool
  | .non, .non => some true
  | _, .non => some false
  | .bl a, .bl b => some (decide (a = b))
  | _, .bl _ => some false
  | _, _ => none
def vB (o : Option Bool) : Option PR := o.map fun k => .val (.bl k)
def vNB (o : Option Bool) : Option PR := o.map fun k => .val (.bl (!k))
def prim2 : P2 → D → D → Option PR
  | .add => pAdd
  | .sub => pInt fun i j => some (.val (.int (i - j)))
  | .mul => pInt fun i j => if mulOk i j then some (.val (.int (i * j))) else none
  | .fdiv => pInt fun i j => if 0 < j ∧ j < 1073741824 then some (.val (.int (i / j))) else none
  | .mod => pInt fun i j => if 0 < j then some (.val (.int (i % j))) else none
  | .pow => pInt fun i j => if 0 ≤ j ∧ j ≤ 1000000 ∧ i.natAbs < 18446744073709551616 then some (.val (.int (i ^ j.toNat))) else none
  | .eq => fun a b => vB (pEq a b)
  | .ne => fun a b => vNB (pEq a b)
  | .lt => pInt fun i j => some (.val (.bl (decide (i < j))))
  | .le => pInt fun i j => some (.val (.bl (decide (i ≤ j))))
  | .gt => pInt fun i j => some (.val (.bl (decide (j < i))))
  | .ge => pInt fun i j => some (.val (.bl (decide (j ≤ i))))
  | .inn => fun a b => vB (pIn a b)
  | .nin => fun a b => vNB (pIn a b)
  | .isN => fun a b => vB (pIs a b)
  | .notN => fun a b => vNB (pIs a b)
  | .idx => pIdx
def prim1 : P1 → D → Option PR
  | .neg, .int i => some (.val (.int (-i)))
  | .len, .str s => some (.val (.int s.length))
  | .len, .lst _ xs => some (.val (.int xs.length))
  | .len, .tup xs => some (.val (.int xs.length))
  | .int, .int i => some (.val (.int i))
  | .int, .bl b => some (.val (.int (if b then 1 else 0)))
  | .int, .str s => match PySem.intText? ⟨s.toArray⟩ with
    | some n => if s.length ≤ 640 then some (.val (.int n)) else none
    | none => none
  | .join, .lst _ xs => match strL xs with
    | some l => if l.length ≤ 10000 ∧ ∀ x ∈ l, x.length ≤ 1000 then some (.val (.str l.flatten)) else none
    | none => none
  | _, _ => none
def isTy : Ty → D → Bool
  | .int, .int _ => true
  | .int, .bl _ => true
  | .bool, .bl _ => true
  | .str, .str _ => true
  | .list, .lst _ _ => true
  | .tuple, .tup _ => true
  | _, _ => false
def truth : D → Bool
  | .non => false
  | .bl b => b
  | .int i => i != 0
  | .str s => !s.isEmpty
  | .lst _ xs => !xs.isEmpty
  | .tup xs => !xs.isEmpty
/-- what a walk over a datum gives -/
def items : D → Option (List D)
  | .lst _ xs => if ownL xs then none else some xs
  | .tup xs => if ownL xs then none else some xs
  | .str s => some (s.map fun c => .str [c])
  | _ => none
def cut {α : Type} (xs : List α) (lo hi : Option Int) : List α := (xs.drop (HT.sIx xs.length 0 lo)).take (HT.sIx xs.length xs.length hi - HT.sIx xs.length 0 lo)
def primS : D → Option Int → Option Int → Option PR
  | .lst _ xs, lo, hi => if ownL xs then none else some (.newl (cut xs lo hi))
  | .str s, lo, hi => some (.val (.str (cut s lo hi)))
  | _, _, _ => none

/-- the answer of a call -/
inductive FR where
  | ok (d : D) | exc (x : Xn)
abbrev Cl := Nat → List D → Option FR
section
variable (gcs : List D) (cl : Cl)
def prOut (e : En) : Option PR → Out R
  | some p => .ok (.d p.dat) e
  | none => .bad
def fzR : R → R
  | .d x => .d (if own x then frz x else x)
  | .pk i => .pk i
/-- the items of a display, the arguments of a call -/
def disp (xs : List D) : Bool := !ownL xs && decide (xs.length ≤ 1000)
/-- as a test: the truth of the value -/
def tst (t : Bool) (o : Out R) : Out R := if t then o.bind fun r e1 => match res e1 r with
    | some x => .ok (.d (.bl (truth x))) e1
    | none => .bad
  else o
/-- what a part of and, or is looked at by -/
def tv (t : Bool) (e : En) (r : R) : Option D := match t, r with
  | true, .d x => some x
  | true, .pk _ => none
  | false, r => res e r
def setS (e : En) (i : Nat) (d : D) : En := e.set i (some d)
def setsS (e : En) : List Nat → List D → En
  | i :: is, d :: ds => setsS (setS e i d) is ds
  | _, _ => e
/-- slots forgotten -/
def wipeE (e : En) : List Nat → En
  | [] => e
  | v :: vs => (wipeE e vs).set v none
/-- the target of a walk -/
def bindT (is : List Nat) (tup : Bool) (x : D) (e : En) : Option En := if tup then match x with
    | .tup ds => if ds.length = is.length then some (setsS e is ds) else none
    | _ => none
  else match is with
    | [i] => some (setS e i x)
    | _ => none
/-- the items of a new list, one after the other -/
def compL (body : D → En → Out (Option D)) : List D → En → List D → Out (List D)
  | [], e, acc => .ok acc e
  | x :: xs, e, acc => (body x e).bind fun o e1 => match o with
    | none => compL body xs e1 acc
    | some y => if acc.length < lineN then compL body xs e1 (acc ++ [y]) else .bad
mutual
/-- the flag: as a test -/
def evE : CE → Bool → En → Out R
  | .cst d, t, e => tst t (.ok (.d d) e)
  | .gc k, t, e => tst t (match gcs[k]? with
    | some d => .ok (.d d) e
    | none => .bad)
  | .var i, t, e => tst t (match e[i]? with
    | some (some d) => if own d then .ok (.d (frz d)) (e.set i (some (frz d))) else .ok (.d d) e
    | _ => .bad)
  | .mov i, t, e => tst t (match e[i]? with
    | some (some d) => .ok (.d d) (e.set i none)
    | _ => .bad)
  | .pk i, t, e => tst t (match e[i]? with
    | some (some _) => .ok (.pk i) e
    | _ => .bad)
  | .p1 p a, t, e => tst t ((evE a false e).bind fun r e1 => match res e1 r with
    | some x => prOut e1 (prim1 p x)
    | none => .bad)
  | .p2 p a b, t, e => tst t ((evE a false e).bind fun r e1 => (evE b false e1).bind fun r2 e2 => match res e2 r, res e2 r2 with
    | some x, some y => prOut e2 (prim2 p x y)
    | _, _ => .bad)
  | .isi a ty, t, e => tst t ((evE a false e).bind fun r e1 => match res e1 r with
    | some x => .ok (.d (.bl (isTy ty x))) e1
    | none => .bad)
  | .slc a lo hi, t, e => tst t ((evE a false e).bind fun r e1 => (evO lo e1).bind fun l e2 => (evO hi e2).bind fun h e3 => match res e3 r with
    | some x => prOut e3 (primS x l h)
    | none => .bad)
  | .tupE as, t, e => tst t ((evA as e).bind fun rs e1 => match resL e1 rs with
    | some xs => if disp xs then .ok (.d (.tup xs)) e1 else .bad
    | none => .bad)
  | .lstE as, t, e => tst t ((evA as e).bind fun rs e1 => match resL e1 rs with
    | some xs => if disp xs then .ok (.d (.lst true xs)) e1 else .bad
    | none => .bad)
  | .call f as, t, e => tst t ((evA as e).bind fun rs e1 => match resL e1 rs with
    | some xs => if disp xs then match cl f xs with
        | some (.ok d) => .ok (.d d) e1
        | some (.exc x) => .exc x e1
        | none => .bad
      else .bad
    | none => .bad)
  | .one a, t, e => evE a t e
  | .and_ a b, t, e => (evE a t e).bind fun r e1 => match tv t e1 r with
    | some (.bl true) => evE b t e1
    | some (.bl false) => .ok (.d (.bl false)) e1
    | _ => .bad
  | .or_ a b, t, e => (evE a t e).bind fun r e1 => match tv t e1 r with
    | some (.bl true) => .ok (.d (.bl true)) e1
    | some (.bl false) => evE b t e1
    | _ => .bad
  | .not_ a, t, e => (evE a t e).bind fun r e1 => match tv t e1 r with
    | some (.bl k) => .ok (.d (.bl (!k))) e1
    | _ => .bad
  | .ifE c a b, t, e => if t then .bad else (evE c true e).bind fun r e1 => match tv true e1 r with
    | some (.bl true) => evE a false e1
    | some (.bl false) => evE b false e1
    | _ => .bad
  | .lc is tup q it c a, t, e => tst t ((evI it e).bind fun xs e1 => (compL (fun x e2 => match bindT is tup x e2 with
      | none => .bad
      | some e3 => (if q then (evE c true e3).bind fun r e4 => (match tv true e4 r with
          | some (.bl b) => .ok b e4
          | _ => .bad) else .ok true e3).bind fun b e4 => if b then (evE a false e4).bind fun r e5 => match r with
            | .d y => .ok (some (frz y)) (wipeE e5 is)
            | .pk _ => .bad
          else .ok none (wipeE e4 is)) xs (wipeE e1 is) []).bind fun ys e6 => .ok (.d (.lst true ys)) e6)
  | _, _, _ => .bad
def evA : CE → En → Out (List R)
  | .nil, e => .ok [] e
  | .cons a as, e => (evE a false e).bind fun r e1 => (evA as e1).bind fun rs e2 => .ok (fzR r :: rs) e2
  | _, _ => .bad
/-- a bound of a slice -/
def evO : CE → En → Out (Option Int)
  | .noE, e => .ok none e
  | .so a, e => (evE a false e).bind fun r e1 => match res e1 r with
    | some (.int i) => .ok (some i) e1
    | _ => .bad
  | _, _ => .bad
/-- what a loop walks -/
def evI : CE → En → Out (List D)
  | .itv a, e => (evE a false e).bind fun r e1 => match r with
    | .d x => match items (frz x) with
      | some xs => .ok xs e1
      | none => .bad
    | .pk _ => .bad
  | .rng1 a, e => (evE a false e).bind fun r e1 => match res e1 r with
    | some (.int n) => if n < 4611686018427387904 ∧ -4611686018427387904 ≤ n then .ok ((List.range n.toNat).map fun (k : Nat) => D.int k) e1 else .bad
    | _ => .bad
  | .rng2 a b, e => (evE a false e).bind fun r e1 => (evE b false e1).bind fun r2 e2 => match res e2 r, res e2 r2 with
    | some (.int m), some (.int n) => if n < 4611686018427387904 ∧ -4611686018427387904 ≤ n ∧ m < 4611686018427387904 ∧ -4611686018427387904 ≤ m then .ok ((List.range (n - m).toNat).map fun (k : Nat) => D.int (m + k)) e2 else .bad
    | _, _ => .bad
  | .enu a, e => (evE a false e).bind fun r e1 => match r with
    | .d x => match items (frz x), frz x with
      | _, .tup _ => .bad
      | some xs, _ => .ok (xs.mapIdx fun k x => D.tup [.int k, x]) e1
      | none, _ => .bad
    | .pk _ => .bad
  | _, _ => .bad
end
/-- how a statement ends -/
inductive Fl where
  | nx | rt (d : D) | bk | ct
def forL (body : D → En → Out Fl) : List D → En → Out Fl
  | [], e => .ok .nx e
  | x :: xs, e => (body x e).bind fun f e1 => match f with
    | .nx => forL body xs e1
    | .ct => forL body xs e1
    | .bk => .ok .nx e1
    | .rt d => .ok (.rt d) e1
def evS : CS → En → Out Fl
  | .skip, e => .ok .nx e
  | .seq a b, e => (evS a e).bind fun f e1 => match f with
    | .nx => evS b e1
    | f => .ok f e1
  | .asg i a, e => (evE gcs cl a false e).bind fun r e1 => match r with
    | .d x => .ok .nx (setS e1 i x)
    | .pk _ => .bad
  | .app i a, e => match e[i]? with
    | some (some (.lst true _)) => (evE gcs cl a false e).bind fun r e1 => match r, e1[i]? with
      | .d x, some (some (.lst true xs)) => if xs.length < lineN then .ok .nx (setS e1 i (.lst true (xs ++ [x]))) else .bad
      | _, _ => .bad
    | _ => .bad
  | .ex a, e => (evE gcs cl a false e).bind fun _ e1 => .ok .nx e1
  | .ret a, e => (evE gcs cl a false e).bind fun r e1 => match r with
    | .d x => .ok (.rt x) e1
    | .pk _ => .bad
  | .retN, e => .ok (.rt .non) e
  | .ite c a b, e => (evE gcs cl c true e).bind fun r e1 => match tv true e1 r with
    | some (.bl true) => evS a e1
    | some (.bl false) => evS b e1
    | _ => .bad
  | .for1 i it b, e => (evI gcs cl it e).bind fun xs e1 => forL (fun x e2 => evS b (setS e2 i x)) xs e1
  | .forT is it b, e => (evI gcs cl it e).bind fun xs e1 => forL (fun x e2 => match x with
    | .tup ds => if ds.length = is.length then evS b (setsS e2 is ds) else .bad
    | _ => .bad) xs e1
  | .never, _ => .bad
/-- a def: its slots, how many of them are parameters, its body -/
structure Fd where
  N : List Str
  np : Nat
  body : CS
end
/-- the program's calls, n deep -/
def run (gcs : List D) (tab : List Fd) : Nat → Cl
  | 0, _, _ => none
  | n + 1, j, ds => match tab[j]? with
    | none => none
    | some fd => if ds.length = fd.np then match evS gcs (run gcs tab n) fd.body (ds.map some ++ List.replicate (fd.N.length - fd.np) none) with
        | .ok (.rt d) _ => some (.ok d)
        | .ok .nx _ => some (.ok .non)
        | .exc x _ => some (.exc x)
        | _ => none
      else none
end OI

/-! the checker: the small language stands for the text -/
namespace OI
open PySem L2
structure Ck where
  N : List Str
  sc : Scope
  fn : List Str
  gn : List Str
def visB (sc : Scope) (x : Str) : Bool := match sc.names.lookup x with
  | some .local => true | some .cell => true | some .free => true | _ => false
def locB (sc : Scope) (x : Str) : Bool := match sc.names.lookup x with
  | some .local => true | some .cell => true | _ => false
def glB (sc : Scope) (x : Str) : Bool := match sc.names.lookup x with
  | some .globalImplicit => true | _ => false
def isB (a : Option Str) (x : Str) : Bool := match a with
  | some y => decide (y = x) | none => false
def binB : Operator → P2 → Bool
  | .Add, .add => true | .Sub, .sub => true | .Mult, .mul => true | .FloorDiv, .fdiv => true | .Mod, .mod => true | .Pow, .pow => true | _, _ => false
def cmpB : CmpOp → P2 → Bool
  | .Eq, .eq => true | .NotEq, .ne => true | .Lt, .lt => true | .LtE, .le => true | .Gt, .gt => true | .GtE, .ge => true | .In, .inn => true | .NotIn, .nin => true | .Is, .isN => true | .IsNot, .notN => true | _, _ => false
def plainB : Expr → Bool
  | .Slice .. => false | .Starred .. => false | .Set .. => false | _ => true
def oneB : P1 → Str → Bool
  | .len, x => decide (x = "len") | .int, x => decide (x = "int") | _, _ => false
def tyB : Ty → Str → Bool
  | .int, x => decide (x = "int") | .str, x => decide (x = "str") | .bool, x => decide (x = "bool") | .list, x => decide (x = "list") | .tuple, x => decide (x = "tuple")
def okCst : D → Expr → Bool
  | .int j, .Constant (.int i) _ _ => decide (i = j)
  | .bl j, .Constant (.bool i) _ _ => decide (i = j)
  | .non, .Constant .none _ _ => true
  | .str s, .Constant (.str x) _ _ => decide (x = ⟨s.toArray⟩) && decide (s.length ≤ lineN)
  | _, _ => false
def okGc (k : Ck) (j : Nat) : Expr → Bool
  | .Name x _ => isB k.gn[j]? x && (glB k.sc x && decide ((x == ("__debug__" : Str)) = false))
  | _ => false
def okVar (k : Ck) (i : Nat) : Expr → Bool
  | .Name x _ => isB k.N[i]? x && (visB k.sc x && (decide ((x == ("__debug__" : Str)) = false) && decide ((x == ("__classdict__" : Str)) = false)))
  | _ => false
def okP1 (k : Ck) (p : P1) (g : Expr → Bool) : Expr → Bool
  | .UnaryOp .USub e _ => decide (p = .neg) && g e
  | .Call (.Name x _) [e] [] _ => oneB p x && (glB k.sc x && (plainB e && g e))
  | .Call (.Attribute (.Constant (.str z) _ _) m ap) [e] [] cp => decide (p = .join) && (decide (z = ⟨#[]⟩) && (decide (m = "join") && (decide (ap.endLine = cp.line) && (plainB e && g e))))
  | _ => false
def okP2 (p : P2) (g h : Expr → Bool) : Expr → Bool
  | .BinOp x op y _ => binB op p && (g x && h y)
  | .Compare x [op] [y] _ => cmpB op p && (plainB y && (g x && h y))
  | .Subscript x y _ => decide (p = .idx) && (plainB y && (g x && h y))
  | _ => false
def okIsi (k : Ck) (t : Ty) (g : Expr → Bool) : Expr → Bool
  | .Call (.Name x _) [e, .Name y _] [] _ => decide (x = "isinstance") && (glB k.sc x && (tyB t y && (glB k.sc y && (plainB e && g e))))
  | _ => false
def okSlc (g : Expr → Bool) (l h : Option Expr → Bool) : Expr → Bool
  | .Subscript x (.Slice lo hi none _) _ => g x && (l lo && h hi)
  | _ => false
def okTup (g : List Expr → Bool) : Expr → Bool
  | .Tuple es _ _ => g es
  | _ => false
def okLst (g : List Expr → Bool) : Expr → Bool
  | .List es _ => g es
  | _ => false
def okCall (k : Ck) (j : Nat) (g : List Expr → Bool) : Expr → Bool
  | .Call (.Name x _) (e :: es) [] _ => isB k.fn[j]? x && (glB k.sc x && (decide ((x == ("__debug__" : Str)) = false) && g (e :: es)))
  | _ => false
def okOne (g : Expr → Bool) : Expr → Bool
  | .BoolOp _ [e] _ => g e
  | _ => false
def okAnd (g h : Expr → Bool) : Expr → Bool
  | .BoolOp .And (x :: y :: r) pos => g x && h (.BoolOp .And (y :: r) pos)
  | _ => false
def okOr (g h : Expr → Bool) : Expr → Bool
  | .BoolOp .Or (x :: y :: r) pos => g x && h (.BoolOp .Or (y :: r) pos)
  | _ => false
def okNot (g : Expr → Bool) : Expr → Bool
  | .UnaryOp .Not e _ => g e
  | _ => false
def okIf (g h l : Expr → Bool) : Expr → Bool
  | .IfExp c x y _ => g c && (h x && l y)
  | _ => false
/-! ### what is walked -/
def okItv (g : Expr → Bool) : Expr → Bool := fun e => plainB e && g e
def okRng1 (k : Ck) (g : Expr → Bool) : Expr → Bool
  | .Call (.Name x _) [e] [] _ => decide (x = "range") && (glB k.sc x && (plainB e && g e))
  | _ => false
def okRng2 (k : Ck) (g h : Expr → Bool) : Expr → Bool
  | .Call (.Name x _) [e, e2] [] _ => decide (x = "range") && (glB k.sc x && (plainB e && (plainB e2 && (g e && h e2))))
  | _ => false
def isTupB : Expr → Bool
  | .Tuple .. => true
  | _ => false
def okEnu (k : Ck) (tg : Expr) (g : Expr → Bool) : Expr → Bool
  | .Call (.Name x _) [e] [] _ => decide (x = "enumerate") && (glB k.sc x && (plainB e && (g e && isTupB tg)))
  | _ => false
def okNames (k : Ck) : List Nat → List Expr → Bool
  | [], [] => true
  | i :: is, .Name x _ :: es => isB k.N[i]? x && (locB k.sc x && okNames k is es)
  | _, _ => false
/-- the names of a target -/
def tgNames : Bool → Expr → Option (List Expr)
  | false, .Name x p => some [.Name x p]
  | true, .Tuple es _ _ => some es
  | _, _ => none
def nameOf : Expr → Str
  | .Name x _ => x
  | _ => "."
/-- inside a comprehension's block -/
def kin (k : Ck) (scope : Scope) : Ck := { k with sc := relS scope k.sc }
def clB : Option NameKind → Bool
  | some .cell => true | some .free => true | _ => false
def blkB (k : Ck) (scope : Scope) (is : List Nat) (es : List Expr) : Bool :=
  decide (scope.kind = .function) && (scope.names.all (fun y => decide (scope.names.lookup y.1 = some y.2)) &&
    (okNames ⟨k.N, scope, k.fn, k.gn⟩ is es && (scope.names.all (fun y => if y.2 = .free then clB (k.sc.names.lookup y.1) else if y.2 = .local ∨ y.2 = .cell then decide (y.1 ∈ es.map nameOf) || !decide (y.1 ∈ k.N) else true))))
def okIfs (q : Bool) (g : Expr → Bool) : List Expr → Bool
  | [] => !q
  | [c] => q && g c
  | _ => false
def okLc (k : Ck) (is : List Nat) (tup q : Bool) (gI : Expr → Expr → Bool) (gc ga : Ck → Expr → Bool) : Expr → Bool
  | .ListComp elt [⟨tg, iter, ifs, z⟩] scope _ => decide (z = 0) && (match tgNames tup tg with
    | some es => blkB k scope is es && (plainB iter && (gI tg iter && (okIfs q (gc (kin k scope)) ifs && ga (kin k scope) elt)))
    | none => false)
  | _ => false
mutual
def okE : Ck → CE → Expr → Bool
  | _, .cst d => okCst d
  | k, .gc j => okGc k j
  | k, .var i => okVar k i
  | k, .mov i => okVar k i
  | k, .pk i => okVar k i
  | k, .p1 p a => okP1 k p (okE k a)
  | k, .p2 p a b => okP2 p (okE k a) (okE k b)
  | k, .isi a t => okIsi k t (okE k a)
  | k, .slc a lo hi => okSlc (okE k a) (okO k lo) (okO k hi)
  | k, .tupE as => okTup (okA k as)
  | k, .lstE as => okLst (okA k as)
  | k, .call j as => okCall k j (okA k as)
  | k, .one a => okOne (okE k a)
  | k, .and_ a b => okAnd (okE k a) (okE k b)
  | k, .or_ a b => okOr (okE k a) (okE k b)
  | k, .not_ a => okNot (okE k a)
  | k, .ifE t a b => okIf (okE k t) (okE k a) (okE k b)
  | k, .lc is tup q it c a => okLc k is tup q (fun tg => okI k tg it) (fun k' => okE k' c) (fun k' => okE k' a)
  | _, _ => fun _ => false
def okA : Ck → CE → List Expr → Bool
  | _, .nil => fun es => es.isEmpty
  | k, .cons a as => fun es => match es with
    | e :: es => plainB e && (okE k a e && okA k as es)
    | [] => false
  | _, _ => fun _ => false
def okO : Ck → CE → Option Expr → Bool
  | _, .noE => fun o => o.isNone
  | k, .so a => fun o => match o with
    | some e => okE k a e
    | none => false
  | _, _ => fun _ => false
def okI : Ck → Expr → CE → Expr → Bool
  | k, _, .itv a => okItv (okE k a)
  | k, _, .rng1 a => okRng1 k (okE k a)
  | k, _, .rng2 a b => okRng2 k (okE k a) (okE k b)
  | k, tg, .enu a => okEnu k tg (okE k a)
  | _, _, _ => fun _ => false
end

/-! ### permuting temporaries -/
section
variable {K : PySem.W.Frag} {f : Frm} {M H : Hp} {σ : St} {env : En} {ts : Tm} {Fe Ft : List Addr}
theorem RTm.perm : ∀ {t t' : Tm}, t.Perm t' → ∀ {F : List Addr}, RTm K M H t F → ∃ F', RTm K M H t' F' ∧ ∀ a, F'.count a = F.count a := by
  intro t t' p
  induction p with
  | nil => intro F h; exact ⟨F, h, fun _ => rfl⟩
  | cons x p ih =>
    intro F h
    obtain ⟨F1, F2, e, h1, h2⟩ := h
    obtain ⟨G, g1, g2⟩ := ih h2
    exact ⟨F1 ++ G, ⟨F1, G, rfl, h1, g1⟩, fun a => by rw [e, List.count_append, List.count_append, g2 a]⟩
  | swap x y l =>
    intro F h
    obtain ⟨F1, F2, e, h1, G1, G2, e2, h2, h3⟩ := h
    exact ⟨G1 ++ (F1 ++ G2), ⟨G1, F1 ++ G2, rfl, h2, F1, G2, rfl, h1, h3⟩, fun a => by rw [e, e2]; simp only [List.count_append]; omega⟩
  | trans p q ih1 ih2 =>
    intro F h
    obtain ⟨F1, h1, e1⟩ := ih1 h
    obtain ⟨F2, h2, e2⟩ := ih2 h1
    exact ⟨F2, h2, fun a => (e2 a).trans (e1 a)⟩
theorem Sta.perm {ts' : Tm} (s : Sta K f H σ env ts) (p : ts.Perm ts') : Sta K f H σ env ts' := by
  obtain ⟨M, Fe, Ft, s⟩ := s
  obtain ⟨F', h, e⟩ := s.rt.perm p
  exact (s.re_of s.re h fun a => by rw [e a]; exact Nat.le_refl _).sta
theorem Sta.drops {os : Tm} (s : Sta K f H σ env (os ++ ts)) : Sta K f H σ env ts := by
  obtain ⟨M, Fe, Ft, s⟩ := s
  obtain ⟨_, s⟩ := s.drops
  exact s.sta

/-! ### operands -/
def tm (v : V) : R → Tm
  | .d x => [(v, x)]
  | .pk _ => []
def pkok (σ : St) (v : V) : R → Prop
  | .d _ => True
  | .pk i => σ[i]? = some (some v)
theorem StaM.view {v : V} {r : R} {x : D} (s : StaM K f M H σ env ts Fe Ft) (hm : ∀ p ∈ tm v r, p ∈ ts) (hp : pkok σ v r) (hr : res env r = some x) : ∃ F', Rep K M H x v F' := by
  cases r with
  | d y =>
    have e : y = x := Option.some.inj hr
    subst e
    exact s.temp (p := (v, y)) (hm _ (by simp [tm]))
  | pk i =>
    have hr : (env[i]?).join = some x := hr
    have hp : σ[i]? = some (some v) := hp
    have e : env[i]? = some (some x) := by
      cases q : env[i]? with
      | none => rw [q] at hr; cases hr
      | some o => rw [q] at hr; rw [show o = some x from hr]
    obtain ⟨v', F', g1, g2⟩ := s.slot e
    rw [hp] at g1
    have e2 : v = v' := Option.some.inj (Option.some.inj g1)
    rw [e2]
    exact ⟨F', g2⟩
def Views (K : PySem.W.Frag) (M H : Hp) : List D → List V → Prop
  | [], [] => True
  | d :: ds, v :: vs => (∃ F, Rep K M H d v F) ∧ Views K M H ds vs
  | _, _ => False
/-- what is to be shown for a primitive's answer -/
def PRok (K : PySem.W.Frag) (M H : Hp) (Q : VK) : PR → Prop
  | .val d => ∀ v, Rep K M H d v [] → Q v H
  | .newl xs => ∀ a vs, H a = none → Reps K M H xs vs [] → Q (.ref a) (upd H a (.lst vs))
  | .newt xs => ∀ a vs, H a = none → Reps K M H xs vs [] → Q (.ref a) (upd H a (.tup vs))
/-- a rule by values keeps a primitive -/
def POk (K : PySem.W.Frag) (r : List V → Hp → VK → Prop) (p : List D → Option PR) : Prop :=
  ∀ (M H : Hp) (ds : List D) (vs : List V) (a : PR) (Q : VK), (∀ b o, M b = some o → H b = some o) → Views K M H ds vs → p ds = some a → PRok K M H Q a → r vs H Q
theorem StaM.answer {Q : VK} {a : PR} (s : StaM K f M H σ env ts Fe Ft) (h : ∀ v H', Sta K f H' σ env ((v, a.dat) :: ts) → Q v H') : PRok K M H Q a := by
  cases a with
  | val d => exact fun v r => h v H (s.re_of s.re (ts' := (v, d) :: ts) (Ft' := Ft) ⟨[], Ft, rfl, r, s.rt⟩ fun a => Nat.le_refl _).sta
  | newl xs => exact fun a vs n r => h _ _ (s.newL n r)
  | newt xs => exact fun a vs n r => h _ _ (s.newT n r)
end
end OI

/-! the primitives -/
namespace OI
open PySem L2
def lift1 (r : V → Hp → VK → Prop) : List V → Hp → VK → Prop := fun vs H Q => ∃ x, vs = [x] ∧ r x H Q
def lift2 (r : R2) : List V → Hp → VK → Prop := fun vs H Q => ∃ x y, vs = [x, y] ∧ r x y H Q
def on1 (p : D → Option PR) : List D → Option PR
  | [x] => p x
  | _ => none
def on2 (p : D → D → Option PR) : List D → Option PR
  | [x, y] => p x y
  | _ => none
section
variable {K : PySem.W.Frag} {X : Cx}
theorem pok2 {r : R2} {p : D → D → Option PR} (h : ∀ (M H : Hp) (x y : D) (v u : V) (F G : List Addr) (a : PR) (Q : VK), (∀ b o, M b = some o → H b = some o) → Rep K M H x v F → Rep K M H y u G → p x y = some a → PRok K M H Q a → r v u H Q) : POk K (lift2 r) (on2 p) := by
  intro M H ds vs a Q hm hv hp hq
  match ds, vs, hv, hp with
  | [x, y], [v, u], ⟨⟨F, h1⟩, ⟨G, h2⟩, _⟩, hp => exact ⟨v, u, rfl, h M H x y v u F G a Q hm h1 h2 hp hq⟩
  | [x, y], [_, _, _], ⟨_, _, z⟩, _ => exact z.elim
  | [x, y], _ :: _ :: _ :: _ :: _, ⟨_, _, z⟩, _ => exact z.elim
theorem pok1 {r : V → Hp → VK → Prop} {p : D → Option PR} (h : ∀ (M H : Hp) (x : D) (v : V) (F : List Addr) (a : PR) (Q : VK), (∀ b o, M b = some o → H b = some o) → Rep K M H x v F → p x = some a → PRok K M H Q a → r v H Q) : POk K (lift1 r) (on1 p) := by
  intro M H ds vs a Q hm hv hp hq
  match ds, vs, hv, hp with
  | [x], [v], ⟨⟨F, h1⟩, _⟩, hp => exact ⟨v, rfl, h M H x v F a Q hm h1 hp hq⟩
  | [x], _ :: _ :: _, ⟨_, z⟩, _ => exact z.elim
theorem repI {M H : Hp} {i : Int} {v : V} {F : List Addr} (h : Rep K M H (.int i) v F) : v = .int i := by unfold Rep at h; exact h.1
theorem repB {M H : Hp} {i : Bool} {v : V} {F : List Addr} (h : Rep K M H (.bl i) v F) : v = .bl i := by unfold Rep at h; exact h.1
theorem repN {M H : Hp} {v : V} {F : List Addr} (h : Rep K M H .non v F) : v = .non := by unfold Rep at h; exact h.1
theorem repS {M H : Hp} {s : List Nat} {v : V} {F : List Addr} (h : Rep K M H (.str s) v F) : v = .str ⟨s.toArray⟩ ∧ s.length ≤ sizeLine := by unfold Rep at h; exact ⟨h.1, h.2.2⟩
theorem mkI {M H : Hp} (i : Int) : Rep K M H (.int i) (.int i) [] := by unfold Rep; exact ⟨rfl, rfl⟩
theorem mkB {M H : Hp} (i : Bool) : Rep K M H (.bl i) (.bl i) [] := by unfold Rep; exact ⟨rfl, rfl⟩
theorem mkN {M H : Hp} : Rep K M H .non .non [] := by unfold Rep; exact ⟨rfl, rfl⟩
theorem mkS {M H : Hp} (s : List Nat) (h : s.length ≤ sizeLine) : Rep K M H (.str s) (.str ⟨s.toArray⟩) [] := by unfold Rep; exact ⟨rfl, rfl, h⟩
theorem sqL_up {M H : Hp} (hm : ∀ b o, M b = some o → H b = some o) {a : Addr} {vs : List V} (h : SqL K M a vs) : SqL K H a vs := Same.seq (H := M) (H' := H) hm h
theorem repL {M H : Hp} (hm : ∀ b o, M b = some o → H b = some o) {o : Bool} {xs : List D} {v : V} {F : List Addr} (h : Rep K M H (.lst o xs) v F) : ∃ a vs F', v = .ref a ∧ SqL K H a vs ∧ Reps K M H xs vs F' := by
  cases o with
  | true =>
    unfold Rep at h
    obtain ⟨a, vs, F', e1, e2, e3, h4⟩ := h
    exact ⟨a, vs, F', e1, .inl (.inl e3), h4⟩
  | false =>
    unfold Rep at h
    obtain ⟨a, vs, e1, e2, e3, h4⟩ := h
    exact ⟨a, vs, [], e1, sqL_up hm e3, h4⟩
theorem repT {M H : Hp} (hm : ∀ b o, M b = some o → H b = some o) {xs : List D} {v : V} {F : List Addr} (h : Rep K M H (.tup xs) v F) : ∃ a vs F', v = .ref a ∧ SqT K H a vs ∧ Reps K M H xs vs F' := by
  unfold Rep at h
  obtain ⟨a, vs, e1, e3, h4⟩ := h
  exact ⟨a, vs, F, e1, sqT_mono hm e3, h4⟩
/-- places -/
theorem at_ixN {α β : Type} {xs : List α} {ys : List β} (hl : ys.length = xs.length) {i : Int} {x : α} (h : at_ xs i = some x) : ∃ j : Nat, xs[j]? = some x ∧ ∀ y, ys[j]? = some y → atI ys i = some y := by
  unfold at_ at h
  unfold atI ixN
  by_cases h0 : 0 ≤ i
  · rw [if_pos h0] at h
    have hlt : i.toNat < xs.length := (List.getElem?_eq_some_iff.mp h).1
    refine ⟨i.toNat, h, fun y hy => ?_⟩
    rw [if_pos h0, if_pos (by omega)]
    exact hy
  · rw [if_neg h0] at h
    by_cases h1 : -(xs.length : Int) ≤ i
    · rw [if_pos h1] at h
      refine ⟨_, h, fun y hy => ?_⟩
      rw [if_neg h0, if_pos (by rw [hl]; exact h1)]
      have e : (i + (ys.length : Int)).toNat = (i + xs.length).toNat := by rw [hl]
      show ys[(i + (ys.length : Int)).toNat]? = some y
      rw [e]; exact hy
    · rw [if_neg h1] at h; cases h
theorem shr_val {d : D} {a : PR} (h : shr d = some a) : a = .val d ∧ own d = false := by
  unfold shr at h
  cases q : own d with
  | true => rw [q] at h; cases h
  | false => rw [q] at h; exact ⟨(Option.some.inj h).symm, rfl⟩

theorem lineN_eq : lineN = sizeLine := by rw [sizeLine_eq]; rfl
theorem str_app (s t : List Nat) : (⟨s.toArray⟩ : Str) ++ ⟨t.toArray⟩ = ⟨(s ++ t).toArray⟩ := by
  show Str.append _ _ = _
  unfold Str.append
  simp
theorem str_eq {s t : List Nat} : (⟨s.toArray⟩ : Str) = ⟨t.toArray⟩ ↔ s = t := by
  constructor
  · intro h
    have : s.toArray = t.toArray := congrArg Str.cps h
    simpa using this
  · intro h; rw [h]
theorem strlen (s : List Nat) : (⟨s.toArray⟩ : Str).length = s.length := by simp [Str.length]
/-- an operator of ints -/
theorem ok_int {g : Int → Int → Option PR} {r : R2} (h : ∀ (M H : Hp) (i j : Int) (a : PR) (Q : VK), g i j = some a → PRok X.K M H Q a → r (.int i) (.int j) H Q) : POk X.K (lift2 r) (on2 (pInt g)) :=
  pok2 fun M H x y v u F G a Q hm hx hy hp hq => by
    cases x <;> cases y <;> simp only [pInt] at hp <;> try (cases hp; done)
    cases repI hx; cases repI hy
    exact h M H _ _ a Q hp hq
theorem ok_add : ∃ r, OpR X (binaryOp .Add) r ∧ POk X.K (lift2 r) (on2 (prim2 .add)) := by
  refine ⟨_, (op_add.or op_add_str), pok2 fun M H x y v u F G a Q hm hx hy hp hq => ?_⟩
  cases x <;> cases y <;> simp only [prim2, pAdd] at hp <;> try (cases hp; done)
  · cases hp; cases repI hx; cases repI hy
    exact .inl ⟨_, _, rfl, rfl, hq _ (mkI _)⟩
  · split at hp
    · rename_i hz
      cases hp; cases (repS hx).1; cases (repS hy).1
      refine .inr ⟨_, _, rfl, rfl, by rw [strlen, strlen, ← lineN_eq]; exact hz, ?_⟩
      rw [str_app]
      exact hq _ (mkS _ (by rw [List.length_append, ← lineN_eq]; exact hz))
    · cases hp
theorem ok_sub : ∃ r, OpR X (binaryOp .Sub) r ∧ POk X.K (lift2 r) (on2 (prim2 .sub)) :=
  ⟨_, op_sub, ok_int fun M H i j a Q hp hq => by cases hp; exact ⟨_, _, rfl, rfl, hq _ (mkI _)⟩⟩
theorem mulOk_ok {i j : Int} (h : mulOk i j = true) : CMul i j := by
  unfold mulOk two64 at h
  simp only [Bool.or_eq_true, Bool.and_eq_true, decide_eq_true_eq] at h
  unfold CMul
  rcases h with h | h
  · exact .inl ⟨by omega, by omega⟩
  · exact .inr ⟨by omega, by omega⟩
theorem ok_mul : ∃ r, OpR X (binaryOp .Mult) r ∧ POk X.K (lift2 r) (on2 (prim2 .mul)) :=
  ⟨_, op_mul, ok_int fun M H i j a Q hp hq => by
    split at hp
    · rename_i hz; cases hp; exact ⟨_, _, rfl, rfl, mulOk_ok hz, hq _ (mkI _)⟩
    · cases hp⟩
theorem ok_fdiv : ∃ r, OpR X (binaryOp .FloorDiv) r ∧ POk X.K (lift2 r) (on2 (prim2 .fdiv)) :=
  ⟨_, op_fdiv, ok_int fun M H i j a Q hp hq => by
    split at hp
    · rename_i hz; cases hp; exact ⟨_, _, rfl, rfl, hz, hq _ (mkI _)⟩
    · cases hp⟩
theorem ok_mod : ∃ r, OpR X (binaryOp .Mod) r ∧ POk X.K (lift2 r) (on2 (prim2 .mod)) :=
  ⟨_, op_mod, ok_int fun M H i j a Q hp hq => by
    split at hp
    · rename_i hz; cases hp; exact ⟨_, _, rfl, rfl, hz, hq _ (mkI _)⟩
    · cases hp⟩
theorem ok_pow : ∃ r, OpR X (binaryOp .Pow) r ∧ POk X.K (lift2 r) (on2 (prim2 .pow)) :=
  ⟨_, op_pow, ok_int fun M H i j a Q hp hq => by
    split at hp
    · rename_i hz; cases hp; exact ⟨_, _, rfl, rfl, ⟨hz.1, hz.2.1, by have := hz.2.2; omega⟩, hq _ (mkI _)⟩
    · cases hp⟩
theorem ok_lt : ∃ r, OpR X (compareOp .Lt) r ∧ POk X.K (lift2 r) (on2 (prim2 .lt)) :=
  ⟨_, op_lt, ok_int fun M H i j a Q hp hq => by cases hp; exact ⟨_, _, rfl, rfl, hq _ (mkB _)⟩⟩
theorem ok_le : ∃ r, OpR X (compareOp .LtE) r ∧ POk X.K (lift2 r) (on2 (prim2 .le)) :=
  ⟨_, op_le, ok_int fun M H i j a Q hp hq => by cases hp; exact ⟨_, _, rfl, rfl, hq _ (mkB _)⟩⟩
theorem ok_gt : ∃ r, OpR X (compareOp .Gt) r ∧ POk X.K (lift2 r) (on2 (prim2 .gt)) :=
  ⟨_, op_gt, ok_int fun M H i j a Q hp hq => by cases hp; exact ⟨_, _, rfl, rfl, hq _ (mkB _)⟩⟩
theorem ok_ge : ∃ r, OpR X (compareOp .GtE) r ∧ POk X.K (lift2 r) (on2 (prim2 .ge)) :=
  ⟨_, op_ge, ok_int fun M H i j a Q hp hq => by cases hp; exact ⟨_, _, rfl, rfl, hq _ (mkB _)⟩⟩
/-! comparisons -/
theorem eqS_ok {M H : Hp} {x y : D} {v u : V} {F G : List Addr} {k : Bool} (hx : Rep K M H x v F) (hy : Rep K M H y u G) (h : eqS x y = some k) : scal v u = true ∧ decide (v = u) = k := by
  cases x <;> cases y <;> simp only [eqS] at h <;> try (cases h; done)
  · cases repN hx; cases repN hy; cases h; exact ⟨rfl, by simp⟩
  · cases repN hx; cases repB hy; cases h; exact ⟨rfl, by simp⟩
  · cases repN hx; cases repI hy; cases h; exact ⟨rfl, by simp⟩
  · cases repN hx; cases (repS hy).1; cases h; exact ⟨rfl, by simp⟩
  · cases repB hx; cases repN hy; cases h; exact ⟨rfl, by simp⟩
  · cases repB hx; cases repB hy; cases h; exact ⟨rfl, by simp⟩
  · cases repB hx; cases (repS hy).1; cases h; exact ⟨rfl, by simp⟩
  · cases repI hx; cases repN hy; cases h; exact ⟨rfl, by simp⟩
  · cases repI hx; cases repI hy; cases h; exact ⟨rfl, by simp⟩
  · cases repI hx; cases (repS hy).1; cases h; exact ⟨rfl, by simp⟩
  · cases (repS hx).1; cases repN hy; cases h; exact ⟨rfl, by simp⟩
  · cases (repS hx).1; cases repB hy; cases h; exact ⟨rfl, by simp⟩
  · cases (repS hx).1; cases repI hy; cases h; exact ⟨rfl, by simp⟩
  · cases (repS hx).1; cases (repS hy).1; cases h
    refine ⟨rfl, ?_⟩
    simp [str_eq]
theorem vB_some {o : Option Bool} {a : PR} (h : vB o = some a) : ∃ k, o = some k ∧ a = .val (.bl k) := by
  cases o with
  | none => cases h
  | some k => exact ⟨k, rfl, (Option.some.inj h).symm⟩
theorem vNB_some {o : Option Bool} {a : PR} (h : vNB o = some a) : ∃ k, o = some k ∧ a = .val (.bl (!k)) := by
  cases o with
  | none => cases h
  | some k => exact ⟨k, rfl, (Option.some.inj h).symm⟩
mutual
theorem dp_of {M H : Hp} (hm : ∀ b o, M b = some o → H b = some o) : ∀ {d : D} {v : V} {F : List Addr}, Rep K M H d v F → Dp K H v (toP d)
  | .non, v, F, h => by cases repN h; exact .non
  | .bl b, v, F, h => by cases repB h; exact .bl b
  | .int i, v, F, h => by cases repI h; exact .int i
  | .str s, v, F, h => by cases (repS h).1; exact .str _
  | .lst o xs, v, F, h => by
    obtain ⟨a, vs, F', e, hs, hr⟩ := repL hm h
    subst e
    exact .lst hs (dps_of hm hr)
  | .tup xs, v, F, h => by
    obtain ⟨a, vs, F', e, hs, hr⟩ := repT hm h
    subst e
    exact .tup hs (dps_of hm hr)
theorem dps_of {M H : Hp} (hm : ∀ b o, M b = some o → H b = some o) : ∀ {ds : List D} {vs : List V} {F : List Addr}, Reps K M H ds vs F → DpAll K H vs (toPs ds)
  | [], vs, F, h => by
    obtain ⟨e, _⟩ := h.inv0
    subst e
    exact .nil
  | d :: ds, vs, F, h => by
    obtain ⟨v, vr, F1, F2, e1, e2, h1, h2⟩ := h.inv
    subst e1
    exact .cons (dp_of hm h1) (dps_of hm h2)
end
theorem pEq_some {x y : D} {k : Bool} (h : pEq x y = some k) : eqS x y = some k ∨ (SeqAt.shaped (toP x) = true ∧ SeqAt.shaped (toP y) = true ∧ k = PyData.eqv (toP x) (toP y)) := by
  unfold pEq at h
  split at h
  · rename_i q
    exact .inl (q.trans h)
  · unfold eqP at h
    split at h
    · rename_i q
      rw [Bool.and_eq_true] at q
      exact .inr ⟨q.1, q.2, (Option.some.inj h).symm⟩
    · cases h
theorem ok_eq (hu : X.A.units + 64 < cLine) : ∃ r, OpR X (compareOp .Eq) r ∧ POk X.K (lift2 r) (on2 (prim2 .eq)) := by
  refine ⟨_, op_eq.or (op_eqD hu), pok2 fun M H x y v u F G a Q hm hx hy hp hq => ?_⟩
  obtain ⟨k, e, rfl⟩ := vB_some hp
  rcases pEq_some e with e | ⟨e1, e2, e3⟩
  · obtain ⟨h1, h2⟩ := eqS_ok hx hy e
    exact .inl ⟨h1, by rw [h2]; exact hq _ (mkB _)⟩
  · exact .inr ⟨_, _, dp_of hm hx, dp_of hm hy, e1, e2, by rw [← e3]; exact hq _ (mkB _)⟩
theorem ok_ne (hu : X.A.units + 64 < cLine) : ∃ r, OpR X (compareOp .NotEq) r ∧ POk X.K (lift2 r) (on2 (prim2 .ne)) := by
  refine ⟨_, op_ne.or (op_neD hu), pok2 fun M H x y v u F G a Q hm hx hy hp hq => ?_⟩
  obtain ⟨k, e, rfl⟩ := vNB_some hp
  rcases pEq_some e with e | ⟨e1, e2, e3⟩
  · obtain ⟨h1, h2⟩ := eqS_ok hx hy e
    exact .inl ⟨h1, by rw [h2]; exact hq _ (mkB _)⟩
  · exact .inr ⟨_, _, dp_of hm hx, dp_of hm hy, e1, e2, by rw [← e3]; exact hq _ (mkB _)⟩
theorem flat_ok {M H : Hp} {x : D} {v : V} {F : List Addr} (hx : Rep K M H x v F) (h : flat x = true) : flatV v = true := by
  cases x <;> try (cases h; done)
  · cases repN hx; rfl
  · cases repB hx; rfl
  · cases repI hx; rfl
  · cases (repS hx).1; rfl
theorem eqF_ok {M H : Hp} {x y : D} {v u : V} {F G : List Addr} (hx : Rep K M H x v F) (hy : Rep K M H y u G) (h1 : flat x = true) (h2 : flat y = true) : eqV v u = eqF x y := by
  cases x <;> (try (cases h1; done)) <;> cases y <;> (try (cases h2; done))
  · cases repN hx; cases repN hy; rfl
  · cases repN hx; cases repB hy; rfl
  · cases repN hx; cases repI hy; rfl
  · cases repN hx; cases (repS hy).1; rfl
  · cases repB hx; cases repN hy; rfl
  · cases repB hx; cases repB hy; rfl
  · cases repB hx; cases repI hy; rfl
  · cases repB hx; cases (repS hy).1; rfl
  · cases repI hx; cases repN hy; rfl
  · cases repI hx; cases repB hy; rfl
  · cases repI hx; cases repI hy; rfl
  · cases repI hx; cases (repS hy).1; rfl
  · cases (repS hx).1; cases repN hy; rfl
  · cases (repS hx).1; cases repB hy; rfl
  · cases (repS hx).1; cases repI hy; rfl
  · cases (repS hx).1; cases (repS hy).1
    show ((_ : Str) == _) = decide _
    rw [Bool.beq_eq_decide_eq]
    simp [str_eq]
theorem flats_ok {M H : Hp} {x : D} {v : V} {F : List Addr} (hx : Rep K M H x v F) (fx : flat x = true) : ∀ {xs : List D} {vs : List V} {G : List Addr}, Reps K M H xs vs G → xs.all flat = true → vs.all flatV = true ∧ inV v vs = xs.any fun y => eqF y x
  | [], _, _, h, _ => by obtain ⟨e, _⟩ := h.inv0; subst e; exact ⟨rfl, rfl⟩
  | d :: ds, _, _, h, f => by
    obtain ⟨u, vr, F1, F2, e1, e2, h1, h2⟩ := h.inv
    rw [List.all_cons, Bool.and_eq_true] at f
    obtain ⟨g1, g2⟩ := flats_ok hx fx h2 f.2
    subst e1
    refine ⟨by rw [List.all_cons, flat_ok h1 f.1, g1]; rfl, ?_⟩
    unfold inV at g2 ⊢
    rw [List.any_cons, List.any_cons, g2, eqF_ok h1 hx f.1 fx]
theorem inL_some {x : D} {xs : List D} {k : Bool} (h : inL x xs = some k) : flat x = true ∧ xs.all flat = true ∧ k = xs.any fun y => eqF y x := by
  unfold inL at h
  split at h
  · rename_i q
    rw [Bool.and_eq_true] at q
    exact ⟨q.1, q.2, (Option.some.inj h).symm⟩
  · cases h
def rInB (K : PySem.W.Frag) (neg : Bool) : R2 := fun x y H Q => (∃ (c : Nat) (z : Str), x = .str ⟨#[c]⟩ ∧ y = .str z ∧ Q (.bl (if neg then !decide (c ∈ z.cps.toList) else decide (c ∈ z.cps.toList))) H) ∨ rIn K neg x y H Q
theorem in_ok {neg : Bool} {M H : Hp} {x y : D} {v u : V} {F G : List Addr} {k : Bool} {Q : VK} (hm : ∀ b o, M b = some o → H b = some o) (hx : Rep K M H x v F) (hy : Rep K M H y u G) (hp : pIn x y = some k) (hq : Q (.bl (if neg then !k else k)) H) : rInB K neg v u H Q := by
  unfold pIn at hp
  split at hp
  · rename_i c z
    cases (repS hx).1; cases (repS hy).1
    have e := Option.some.inj hp
    subst e
    exact .inl ⟨c, _, rfl, rfl, by simpa using hq⟩
  · rename_i x' o xs _
    obtain ⟨a, vs, F', rfl, hs, hr⟩ := repL hm hy
    obtain ⟨f1, f2, e⟩ := inL_some hp
    obtain ⟨g1, g2⟩ := flats_ok hx f1 hr f2
    subst e
    exact .inr ⟨a, vs, rfl, .inl hs, flat_ok hx f1, g1, by rw [g2]; exact hq⟩
  · rename_i x' xs _
    obtain ⟨a, vs, F', rfl, hs, hr⟩ := repT hm hy
    obtain ⟨f1, f2, e⟩ := inL_some hp
    obtain ⟨g1, g2⟩ := flats_ok hx f1 hr f2
    subst e
    exact .inr ⟨a, vs, rfl, .inr hs, flat_ok hx f1, g1, by rw [g2]; exact hq⟩
  · cases hp
theorem OpR.mono {g : Value → Value → Sem Value} {r r' : R2} (h : OpR X g r) (hi : ∀ x y H Q, r' x y H Q → r x y H Q) : OpR X g r' := fun pins s σ H x y v u Q I rx ry q => h pins s σ H x y v u Q I rx ry (hi _ _ _ _ q)
theorem ok_in : ∃ r, OpR X (compareOp .In) r ∧ POk X.K (lift2 r) (on2 (prim2 .inn)) := by
  refine ⟨rInB X.K false, OI.OpR.mono (op_in_sign.or op_in_seq) fun x y H Q h => ?_, pok2 fun M H x y v u F G a Q hm hx hy hp hq => ?_⟩
  · rcases h with ⟨c, z, e1, e2, q⟩ | h
    · exact .inl ⟨c, z, e1, e2, q⟩
    · exact .inr h
  · obtain ⟨k, e, rfl⟩ := vB_some hp
    exact in_ok (neg := false) hm hx hy e (hq _ (mkB _))
theorem ok_nin : ∃ r, OpR X (compareOp .NotIn) r ∧ POk X.K (lift2 r) (on2 (prim2 .nin)) := by
  refine ⟨rInB X.K true, OI.OpR.mono (op_notIn_sign.or op_notIn_seq) fun x y H Q h => ?_, pok2 fun M H x y v u F G a Q hm hx hy hp hq => ?_⟩
  · rcases h with ⟨c, z, e1, e2, q⟩ | h
    · exact .inl ⟨c, z, e1, e2, q⟩
    · exact .inr h
  · obtain ⟨k, e, rfl⟩ := vNB_some hp
    exact in_ok (neg := true) hm hx hy e (hq _ (mkB _))
theorem op_isB : OpR X (compareOp .Is) (fun x y H Q => ∃ b, y = .bl b ∧ Q (.bl (decide (x = .bl b))) H) := by
  intro pins s σ H x y v u Q I rx ry h
  obtain ⟨b, rfl, q⟩ := h
  cases ry
  show wpAny _ _ ((isSame v (Value.bool b)) >>= fun z => pure (Value.bool z)) _ _ s
  refine wpAny_bind (wpAny_isSame_plain ?_ (wpAny_pure (fin_bl I q ?_)))
  · cases x <;> first | (cases rx; rfl) | (obtain ⟨t, rfl⟩ := rx; rfl)
  · cases x with
    | bl c => cases rx; cases c <;> cases b <;> rfl
    | _ => first | (cases rx; rfl) | (obtain ⟨t, rfl⟩ := rx; rfl)
theorem op_isnotB : OpR X (compareOp .IsNot) (fun x y H Q => ∃ b, y = .bl b ∧ Q (.bl (!decide (x = .bl b))) H) := by
  intro pins s σ H x y v u Q I rx ry h
  obtain ⟨b, rfl, q⟩ := h
  cases ry
  show wpAny _ _ ((isSame v (Value.bool b)) >>= fun z => pure (Value.bool (!z))) _ _ s
  refine wpAny_bind (wpAny_isSame_plain ?_ (wpAny_pure (fin_bl I q ?_)))
  · cases x <;> first | (cases rx; rfl) | (obtain ⟨t, rfl⟩ := rx; rfl)
  · cases x with
    | bl c => cases rx; cases c <;> cases b <;> rfl
    | _ => first | (cases rx; rfl) | (obtain ⟨t, rfl⟩ := rx; rfl)
theorem is_ok {M H : Hp} (hm : ∀ b o, M b = some o → H b = some o) {x y : D} {v u : V} {F G : List Addr} {k : Bool} (hx : Rep K M H x v F) (hy : Rep K M H y u G) (h : pIs x y = some k) : (u = .non ∧ decide (v = .non) = k) ∨ ∃ b, u = .bl b ∧ decide (v = .bl b) = k := by
  have hv : ∀ w : V, (∀ a, w ≠ .ref a) → (∀ o xs, x = .lst o xs → v ≠ w) ∧ (∀ xs, x = .tup xs → v ≠ w) := fun w hw => ⟨fun o xs e => by
    subst e
    obtain ⟨a, _, _, e, _⟩ := repL hm hx
    subst e
    exact fun z => hw a z.symm, fun xs e => by
    subst e
    obtain ⟨a, _, _, e, _⟩ := repT hm hx
    subst e
    exact fun z => hw a z.symm⟩
  cases y with
  | non =>
    cases repN hy
    refine .inl ⟨rfl, ?_⟩
    cases x with
    | non => cases repN hx; cases h; rfl
    | bl b => cases repB hx; cases h; rfl
    | int b => cases repI hx; cases h; rfl
    | str b => cases (repS hx).1; cases h; rfl
    | lst o xs => cases h; exact decide_eq_false ((hv .non fun a z => nomatch z).1 o xs rfl)
    | tup xs => cases h; exact decide_eq_false ((hv .non fun a z => nomatch z).2 xs rfl)
  | bl b =>
    cases repB hy
    refine .inr ⟨b, rfl, ?_⟩
    cases x with
    | non => cases repN hx; cases h; rfl
    | bl c => cases repB hx; cases h; simp
    | int b => cases repI hx; cases h; rfl
    | str b => cases (repS hx).1; cases h; rfl
    | lst o xs => cases h; exact decide_eq_false ((hv (.bl b) fun a z => nomatch z).1 o xs rfl)
    | tup xs => cases h; exact decide_eq_false ((hv (.bl b) fun a z => nomatch z).2 xs rfl)
  | _ => cases x <;> cases h
theorem ok_is : ∃ r, OpR X (compareOp .Is) r ∧ POk X.K (lift2 r) (on2 (prim2 .isN)) := by
  refine ⟨_, op_isN.or op_isB, pok2 fun M H x y v u F G a Q hm hx hy hp hq => ?_⟩
  obtain ⟨k, e, rfl⟩ := vB_some hp
  rcases is_ok hm hx hy e with ⟨h1, h2⟩ | ⟨b, h1, h2⟩
  · exact .inl ⟨h1, by rw [h2]; exact hq _ (mkB _)⟩
  · exact .inr ⟨b, h1, by rw [h2]; exact hq _ (mkB _)⟩
theorem ok_isnot : ∃ r, OpR X (compareOp .IsNot) r ∧ POk X.K (lift2 r) (on2 (prim2 .notN)) := by
  refine ⟨_, op_notN.or op_isnotB, pok2 fun M H x y v u F G a Q hm hx hy hp hq => ?_⟩
  obtain ⟨k, e, rfl⟩ := vNB_some hp
  rcases is_ok hm hx hy e with ⟨h1, h2⟩ | ⟨b, h1, h2⟩
  · exact .inl ⟨h1, by rw [h2]; exact hq _ (mkB _)⟩
  · exact .inr ⟨b, h1, by rw [h2]; exact hq _ (mkB _)⟩
theorem ok_idx : ∃ r, IxR X r ∧ POk X.K (lift2 r) (on2 (prim2 .idx)) := by
  refine ⟨_, (ix_list.or (ix_tup.or ix_str)), pok2 fun M H x y v u F G a Q hm hx hy hp hq => ?_⟩
  simp only [prim2] at hp
  unfold pIdx at hp
  split at hp
  · rename_i o xs i
    cases repI hy
    obtain ⟨b, vs, F', rfl, hs, hr⟩ := repL hm hx
    cases q : at_ xs i with
    | none => rw [q] at hp; cases hp
    | some d =>
      rw [q] at hp
      obtain ⟨e, ho⟩ := shr_val hp
      subst e
      obtain ⟨j, h1, h2⟩ := at_ixN hr.length q
      obtain ⟨w, F2, g1, g2, _⟩ := hr.get h1
      have z := g2.bare ho
      subst z
      exact .inl ⟨b, vs, i, w, rfl, rfl, hs, h2 w g1, hq w g2⟩
  · rename_i xs i
    cases repI hy
    obtain ⟨b, vs, F', rfl, hs, hr⟩ := repT hm hx
    cases q : at_ xs i with
    | none => rw [q] at hp; cases hp
    | some d =>
      rw [q] at hp
      obtain ⟨e, ho⟩ := shr_val hp
      subst e
      obtain ⟨j, h1, h2⟩ := at_ixN hr.length q
      obtain ⟨w, F2, g1, g2, _⟩ := hr.get h1
      have z := g2.bare ho
      subst z
      exact .inr (.inl ⟨b, vs, i, w, rfl, rfl, hs, h2 w g1, hq w g2⟩)
  · rename_i s i
    cases repI hy
    obtain ⟨e, hl⟩ := repS hx
    subst e
    cases q : at_ s i with
    | none => rw [q] at hp; cases hp
    | some c =>
      rw [q] at hp
      cases hp
      obtain ⟨j, h1, h2⟩ := at_ixN (ys := s) rfl q
      exact .inr (.inr ⟨_, i, c, rfl, rfl, by rw [strlen]; exact hl, by simpa using h2 c h1, hq _ (mkS [c] (by rw [sizeLine_eq]; show 1 ≤ 16777216; decide))⟩)
  · cases hp
/-! one argument -/
theorem ok_neg : ∃ r, UnR X (unaryOp .USub) r ∧ POk X.K (lift1 r) (on1 (prim1 .neg)) := by
  refine ⟨_, un_neg, pok1 fun M H x v F a Q hm hx hp hq => ?_⟩
  cases x <;> simp only [prim1] at hp <;> try (cases hp; done)
  cases hp; cases repI hx
  exact ⟨_, rfl, hq _ (mkI _)⟩
theorem ok_len : POk X.K (fun xs H Q => ∃ x n, xs = [x] ∧ LenV X.K x H n ∧ Q (.int n) H) (on1 (prim1 .len)) := by
  intro M H ds vs a Q hm hv hp hq
  obtain ⟨v, e, x, n, h1, h2⟩ := pok1 (K := X.K) (r := fun v H Q => ∃ x n, v = x ∧ LenV X.K x H n ∧ Q (.int n) H) (p := prim1 .len) (fun M H x v F a Q hm hx hp hq => by
    cases x <;> simp only [prim1] at hp <;> try (cases hp; done)
    · cases hp; obtain ⟨e, hl⟩ := repS hx; subst e
      exact ⟨_, _, rfl, ⟨by rw [strlen]; exact hl, (strlen _).symm⟩, hq _ (mkI _)⟩
    · cases hp; obtain ⟨b, vs, F', e, hs, hr⟩ := repL hm hx; subst e
      exact ⟨_, _, rfl, .inl ⟨vs, hs, hr.length.symm⟩, hq _ (mkI _)⟩
    · cases hp; obtain ⟨b, vs, F', e, hs, hr⟩ := repT hm hx; subst e
      exact ⟨_, _, rfl, .inr ⟨vs, hs, hr.length.symm⟩, hq _ (mkI _)⟩) M H ds vs a Q hm hv hp hq
  subst h1
  exact ⟨v, n, e, h2⟩
theorem ok_toint : POk X.K (fun xs H Q => ((∃ i, xs = [.int i] ∧ Q (.int i) H) ∨ ∃ k, xs = [.bl k] ∧ Q (.int (if k then 1 else 0)) H) ∨ ∃ a n, xs = [.str a] ∧ PySem.intText? a = some n ∧ a.length ≤ 640 ∧ Q (.int n) H) (on1 (prim1 .int)) := by
  intro M H ds vs a Q hm hv hp hq
  obtain ⟨v, e, h1⟩ := pok1 (K := X.K) (r := fun v H Q => ((∃ i, v = .int i ∧ Q (.int i) H) ∨ ∃ k, v = .bl k ∧ Q (.int (if k then 1 else 0)) H) ∨ ∃ a n, v = .str a ∧ PySem.intText? a = some n ∧ a.length ≤ 640 ∧ Q (.int n) H) (p := prim1 .int) (fun M H x v F a Q hm hx hp hq => by
    cases x <;> simp only [prim1] at hp <;> try (cases hp; done)
    · cases hp; cases repB hx
      exact .inl (.inr ⟨_, rfl, hq _ (mkI _)⟩)
    · cases hp; cases repI hx
      exact .inl (.inl ⟨_, rfl, hq _ (mkI _)⟩)
    · cases (repS hx).1
      split at hp
      · rename_i m hm'
        split at hp
        · rename_i hl
          cases hp
          exact .inr ⟨_, m, rfl, hm', by rw [strlen]; exact hl, hq _ (mkI _)⟩
        · cases hp
      · cases hp) M H ds vs a Q hm hv hp hq
  rcases h1 with (⟨i, e2, q⟩ | ⟨i, e2, q⟩) | ⟨b, m, e2, q⟩
  · exact .inl (.inl ⟨i, by rw [e, e2], q⟩)
  · exact .inl (.inr ⟨i, by rw [e, e2], q⟩)
  · exact .inr ⟨b, m, by rw [e, e2], q⟩
/-! ''.join(list) -/
theorem strL_ok {M H : Hp} : ∀ {xs : List D} {vs : List V} {F : List Addr} {l : List (List Nat)}, Reps K M H xs vs F → strL xs = some l → vs = l.map fun s => V.str ⟨s.toArray⟩
  | [], vs, F, l, h, e => by
    obtain ⟨q, _⟩ := h.inv0
    cases e
    exact q
  | d :: ds, vs, F, l, h, e => by
    obtain ⟨v, vr, F1, F2, e1, e2, h1, h2⟩ := h.inv
    subst e1
    cases d with
    | str s =>
      simp only [strL, Option.map_eq_some_iff] at e
      obtain ⟨l', e3, e4⟩ := e
      subst e4
      rw [List.map_cons, ← strL_ok h2 e3, (repS h1).1]
    | _ => cases e
theorem join_nil : ∀ (l : List (List Nat)), Str.join ⟨#[]⟩ (l.map fun s => (⟨s.toArray⟩ : Str)) = ⟨l.flatten.toArray⟩
  | [] => rfl
  | [x] => by
    show (⟨x.toArray⟩ : Str) = _
    simp
  | x :: y :: r => by
    have ih := join_nil (y :: r)
    show (⟨x.toArray⟩ : Str) ++ (⟨#[]⟩ : Str) ++ Str.join ⟨#[]⟩ ((y :: r).map fun s => (⟨s.toArray⟩ : Str)) = _
    rw [ih]
    show (⟨(x.toArray ++ #[]) ++ (y :: r).flatten.toArray⟩ : Str) = _
    congr 1
    simp
theorem vals_strs : ∀ {l : List (List Nat)} {its : List Value}, Vals (l.map fun s => V.str ⟨s.toArray⟩) its → ∃ ls : List (Str × Tok), its = strValues ls ∧ ls.map (·.1) = l.map fun s => (⟨s.toArray⟩ : Str)
  | [], _, h => by cases h; exact ⟨[], rfl, rfl⟩
  | x :: l, _, h => by
    cases h with
    | cons r rs =>
      obtain ⟨ls, e1, e2⟩ := vals_strs rs
      obtain ⟨t, e3⟩ := r
      subst e1 e3
      exact ⟨(⟨x.toArray⟩, t) :: ls, rfl, by simp [e2]⟩
def rJoin (K : PySem.W.Frag) : List V → Hp → VK → Prop := fun xs H Q => ∃ (p : Addr) (l : List (List Nat)), xs = [.ref p] ∧ SqL K H p (l.map fun s => V.str ⟨s.toArray⟩) ∧ l.length ≤ 10000 ∧ (∀ x ∈ l, x.length ≤ 1000) ∧ Q (.str ⟨l.flatten.toArray⟩) H
theorem mt_join : MtR X "str.join" (fun x xs H Q => x = .str ⟨#[]⟩ ∧ rJoin X.K xs H Q) := fun pins s σ H x xs v us Q I rx rxs h => by
  obtain ⟨rfl, p, l, rfl, hs, h1, h2, q⟩ := h
  obtain ⟨t, rfl⟩ := (show ∃ t, v = Value.str ⟨#[]⟩ t from rx)
  obtain ⟨u, rfl, ru⟩ := vals1 rxs
  obtain rfl : u = Value.ref p := ru
  obtain ⟨its, rv, pl, hz⟩ := I.list hs
  obtain ⟨ls, e1, e2⟩ := vals_strs rv
  subst e1
  refine SC.join pl.isList e2 ?_ fun t' k => ⟨.str ⟨l.flatten.toArray⟩, H, I.tok k, ⟨t', ?_⟩, q⟩
  · unfold JoinOk
    rw [Bool.not_eq_true']
    refine StrLaws.joinFits (B := 1000) (fun y hy => ?_) ?_
    · obtain ⟨z, hz, rfl⟩ := List.mem_map.mp hy
      rw [strlen]; exact h2 z hz
    · rw [List.length_map]
      show l.length * 1000 + l.length * 0 ≤ 16777216
      omega
  · show Value.str (Builtin.Str.glued ⟨#[]⟩ _) t' = _
    rw [StrLaws.glued_eq_join, join_nil]
theorem flat_len_le {B : Nat} : ∀ {l : List (List Nat)}, (∀ x ∈ l, x.length ≤ B) → l.flatten.length ≤ l.length * B
  | [], _ => by simp
  | x :: l, h => by
    rw [List.flatten_cons, List.length_append, List.length_cons, Nat.add_mul]
    have h1 := h x (List.mem_cons_self ..)
    have h2 := flat_len_le (l := l) fun y hy => h y (List.mem_cons_of_mem _ hy)
    omega
theorem ok_join : POk X.K (rJoin X.K) (on1 (prim1 .join)) := by
  intro M H ds vs a Q hm hv hp hq
  obtain ⟨v, e, p, l, h1, h2⟩ := pok1 (K := X.K) (r := fun v H Q => ∃ (p : Addr) (l : List (List Nat)), v = .ref p ∧ SqL X.K H p (l.map fun s => V.str ⟨s.toArray⟩) ∧ l.length ≤ 10000 ∧ (∀ x ∈ l, x.length ≤ 1000) ∧ Q (.str ⟨l.flatten.toArray⟩) H) (p := prim1 .join) (fun M H x v F a Q hm hx hp hq => by
    cases x <;> simp only [prim1] at hp <;> try (cases hp; done)
    rename_i o xs
    split at hp
    · rename_i l hl
      split at hp
      · rename_i hb
        cases hp
        obtain ⟨b, vs, F', e, hs, hr⟩ := repL hm hx
        subst e
        rw [strL_ok hr hl] at hs
        refine ⟨b, l, rfl, hs, hb.1, hb.2, hq _ (mkS _ ?_)⟩
        rw [← lineN_eq]
        have := flat_len_le hb.2
        have h3 : l.length * 1000 ≤ 10000 * 1000 := Nat.mul_le_mul_right _ hb.1
        exact Nat.le_trans this (Nat.le_trans h3 (by unfold lineN; decide))
      · cases hp
    · cases hp) M H ds vs a Q hm hv hp hq
  subst h1
  exact ⟨p, l, e, h2⟩
/-! slices -/
theorem map_cut {xs : List D} {vs : List V} {M H : Hp} (h : Reps K M H xs vs []) (lo hi : Option Int) : Reps K M H (cut xs lo hi) (cutV vs lo hi) [] := by
  unfold cut cutV
  rw [h.length]
  exact (h.drop _).take _
theorem cut_length {α : Type} (xs : List α) (lo hi : Option Int) : (cut xs lo hi).length ≤ xs.length := by
  unfold cut
  rw [List.length_take, List.length_drop]
  omega
theorem ok_slice {M H : Hp} {x : D} {v : V} {F : List Addr} {lo hi : Option Int} {a : PR} {Q : VK} (hm : ∀ b o, M b = some o → H b = some o) (hx : Rep K M H x v F) (hp : primS x lo hi = some a) (hq : PRok K M H Q a) : rSlL K v lo hi H Q ∨ rSlS v lo hi H Q := by
  unfold primS at hp
  split at hp
  · rename_i o xs
    split at hp
    · cases hp
    · rename_i ho
      cases hp
      obtain ⟨b, vs, F', rfl, hs, hr⟩ := repL hm hx
      have z := hr.bare (by simpa using ho)
      subst z
      exact .inl ⟨b, vs, rfl, hs, fun p np => hq p _ np (map_cut hr _ _)⟩
  · rename_i s
    cases hp
    obtain ⟨e, hl⟩ := repS hx
    subst e
    refine .inr ⟨_, rfl, by rw [strlen]; exact hl, ?_⟩
    have e : cutS ⟨s.toArray⟩ lo hi = ⟨(cut s lo hi).toArray⟩ := by
      unfold cutS cut
      rw [strlen]
    rw [e]
    exact hq _ (mkS _ (Nat.le_trans (cut_length _ _ _) hl))
  · cases hp
end
end OI

/-! expressions are read rightly -/
namespace OI
open PySem L2
/-- what a def of the program promises, by its meaning -/
def spOf (K : PySem.W.Frag) (np : Nat) (g : List D → Option FR) : Sp := fun vs H Q _ => ∃ M ds d, vs.length = np ∧ (∀ b o, M b = some o → H b = some o) ∧ Reps K M H ds vs [] ∧ g ds = some (.ok d) ∧
  ∀ v H' M' F, (∀ b o, M b = some o → M' b = some o) → (∀ b o, M' b = some o → H' b = some o) → (∀ b o, M' b = some o → M b = some o ∨ H b = none) → (∀ b o, H b = some o → H' b = some o) →
    Rep K M' H' d v F → (∀ a, F.count a ≤ 1) → (∀ a ∈ F, M' a = none ∧ H a = none) → Q v H'
def bltNames : List Str := ["len", "int", "isinstance", "str", "bool", "list", "tuple", "range", "enumerate"]
/-- what an expression's context is to keep -/
structure XE (k : Ck) (gcs : List D) (cl : Cl) (n : Nat) (X : Cx) : Prop where
  nd : X.N.Nodup
  hN : X.N = k.N
  hsc : X.env.scope = k.sc
  calm : X.calm = true
  room : Room n X.A
  blt : ∀ x ∈ bltNames, X.mg x = none
  gc : ∀ (j : Nat) x, k.gn[j]? = some x → ∃ v u d, X.mg x = some u ∧ RelV v u ∧ gcs[j]? = some d ∧ ∀ M H, Rep X.K M H d v []
  fns : ∀ (j : Nat) x, k.fn[j]? = some x → ∃ fa fd ps, X.mg x = some (.ref fa) ∧ PySem.W.keepIn X.K (.ref fa) = true ∧ Binds X.K fd ps [] ∧ (∀ ds r, cl j ds = some r → ds.length = ps.length) ∧ FnOk X.prog X.w X.K X.mg X.base CX0 n fa fd ps (spOf X.K ps.length (cl j))
structure XOk (k : Ck) (gcs : List D) (cl : Cl) (n : Nat) (X : Cx) : Prop extends XE k gcs cl n X where
  pass : PassesOwn (model X.prog X.w) X.A X.env X.xe
  fn : ∀ x, X.fn x = true
theorem XE.blk {k : Ck} {gcs : List D} {cl : Cl} {n : Nat} {X : Cx} (ok : XE k gcs cl n X) {scope : Scope} (s : Shared) (H : Hp) (C : Addr) (cs : List (Str × Addr)) (fp : List Addr) : XE (kin k scope) gcs cl n (X.blk s H scope (compEnvC scope cs C X.env) fp) where
  nd := ok.nd
  hN := ok.hN
  hsc := by
    show relS scope X.env.scope = relS scope k.sc
    rw [ok.hsc]
  calm := ok.calm
  room := ok.room
  blt := ok.blt
  gc := ok.gc
  fns := ok.fns
theorem bind_ok {α β : Type} {o : Out α} {g : α → En → Out β} {b : β} {e' : En} (h : o.bind g = .ok b e') : ∃ a e1, o = .ok a e1 ∧ g a e1 = .ok b e' := by
  cases o with
  | ok a e => exact ⟨a, e, rfl, h⟩
  | exc x e => cases h
  | bad => cases h
def tms : List V → List R → Tm
  | v :: vs, r :: rs => tm v r ++ tms vs rs
  | _, _ => []
def Ops (σ : St) : List V → List R → Prop
  | [], [] => True
  | v :: vs, r :: rs => pkok σ v r ∧ Ops σ vs rs
  | _, _ => False
section
variable (K : PySem.W.Frag) (f : Frm) (gcs : List D) (cl : Cl)
def tE (c : CE) : TE := fun σ H Q => ∃ env ts, Sta K f H σ env ts ∧ ∃ r env', evE gcs cl c false env = .ok r env' ∧ ∀ v H', pkok σ v r → Sta K f H' σ env' (tm v r ++ ts) → Q v H'
def tT (c : CE) : TT := fun σ H Q => ∃ env ts, Sta K f H σ env ts ∧ ∃ b env', evE gcs cl c true env = .ok (.d (.bl b)) env' ∧ ∀ H', Sta K f H' σ env' ts → Q b H'
def tAr (c : CE) : TA := fun σ H Q => ∃ env ts, Sta K f H σ env ts ∧ ∃ rs env', evA gcs cl c env = .ok rs env' ∧ ∀ vs H', Ops σ vs rs → Sta K f H' σ env' (tms vs rs ++ ts) → Q vs H'
def tOp_ (c : CE) : TO := fun σ H Q => ∃ env ts, Sta K f H σ env ts ∧ ∃ o env', evO gcs cl c env = .ok o env' ∧ ∀ H', Sta K f H' σ env' ts → Q o H'
end
section
variable {X : Cx} {e : Expr}
theorem PE.mono {t t' : TE} (h : PE X e t) (hi : ∀ σ H Q, t' σ H Q → t σ H Q) : PE X e t' := ⟨fun pins s σ H Q I q => h.run pins s σ H Q I (hi σ H Q q)⟩
theorem PT.mono {t t' : TT} (h : PT X e t) (hi : ∀ σ H Q, t' σ H Q → t σ H Q) : PT X e t' := ⟨fun pins s σ H Q I q => h.run pins s σ H Q I (hi σ H Q q)⟩
theorem PW.mono {t t' : TT} (h : PW X e t) (hi : ∀ σ H Q, t' σ H Q → t σ H Q) : PW X e t' := ⟨fun wh pins s σ H Q I q => h.run wh pins s σ H Q I (hi σ H Q q)⟩
theorem PA.mono {es : List Expr} {t t' : TA} (h : PA X es t) (hi : ∀ σ H Q, t' σ H Q → t σ H Q) : PA X es t' := ⟨fun pos pins s σ H Q I q => h.run pos pins s σ H Q I (hi σ H Q q)⟩
theorem PO.mono {o : Option Expr} {t t' : TO} (h : PO X o t) (hi : ∀ σ H Q, t' σ H Q → t σ H Q) : PO X o t' := ⟨fun pins s σ H Q I q => h.run pins s σ H Q I (hi σ H Q q)⟩
end
theorem isB_eq {o : Option Str} {x : Str} (h : isB o x = true) : o = some x := by
  cases o with
  | none => cases h
  | some y => rw [of_decide_eq_true h]
theorem visB_ok {sc : Scope} {x : Str} (h : visB sc x = true) : Vis sc x := by
  unfold visB at h
  split at h
  · exact .inl (by assumption)
  · exact .inr (.inl (by assumption))
  · exact .inr (.inr (by assumption))
  · cases h
theorem locB_ok {sc : Scope} {x : Str} (h : locB sc x = true) : Loc sc x := by
  unfold locB at h
  split at h
  · exact .inl (by assumption)
  · exact .inr (by assumption)
  · cases h
theorem glB_ok {X : Cx} {x : Str} (h : glB X.env.scope x = true) : Gl X x := by
  unfold glB at h
  split at h
  · show X.env.scope.names.lookup x = _; assumption
  · cases h
theorem star_of {e : Expr} {es : List Expr} {env : Env} (h : plainB e = true) : starEach (e :: es) env = (false, eval e env) :: starEach es env := by
  cases e <;> first | rfl | cases h
theorem plainIx {e : Expr} (h : plainB e = true) : PlainIx e := by
  intro o i
  cases e <;> first | rfl | cases h
theorem mark_of {op : CmpOp} {e : Expr} (h : plainB e = true) : behindInMarks op e = false := by
  cases e <;> first | rfl | cases h
section
variable {K : PySem.W.Frag} {f : Frm} {M H : Hp} {σ : St} {env : En} {ts : Tm} {Fe Ft : List Addr} {gcs : List D} {cl : Cl}
theorem truV_ok {x : D} {v : V} {F : List Addr} (hm : ∀ b o, M b = some o → H b = some o) (h : Rep K M H x v F) : TruV K v H (truth x) := by
  cases x with
  | non => cases repN h; rfl
  | bl b => cases repB h; rfl
  | int b => cases repI h; rfl
  | str s =>
    obtain ⟨e, hl⟩ := repS h
    subst e
    refine ⟨by rw [strlen]; exact hl, ?_⟩
    rw [strlen]
    cases s with
    | nil => rfl
    | cons a s => show true = (((s.length + 1 : Nat) : Int) != 0); simp; omega
  | lst o xs =>
    obtain ⟨a, vs, F', e, hs, hr⟩ := repL hm h
    subst e
    refine .inl ⟨vs, hs, ?_⟩
    have := hr.length
    cases xs <;> cases vs <;> simp_all [truth]
  | tup xs =>
    obtain ⟨a, vs, F', e, hs, hr⟩ := repT hm h
    subst e
    refine .inr (.inl ⟨vs, hs, ?_⟩)
    have := hr.length
    cases xs <;> cases vs <;> simp_all [truth]
theorem StaM.drop2 {a b : Tm} (s : StaM K f M H σ env (a ++ (b ++ ts)) Fe Ft) : ∃ Ft', StaM K f M H σ env ts Fe Ft' := by
  obtain ⟨_, s1⟩ := s.drops
  exact s1.drops
theorem prOut_ok {e1 : En} {o : Option PR} {r : R} {e' : En} (h : prOut e1 o = .ok r e') : ∃ a, o = some a ∧ r = .d a.dat ∧ e1 = e' := by
  cases o with
  | none => cases h
  | some a => cases h; exact ⟨a, rfl, rfl, rfl⟩
/-- two operands -/
theorem two {a b : CE} {p : P2} {r : R2} (hp : POk K (lift2 r) (on2 (prim2 p))) {Q : VK} (h : tE K f gcs cl (.p2 p a b) σ H Q) : tOp r (tE K f gcs cl a) (tE K f gcs cl b) σ H Q := by
  obtain ⟨env, ts, s, r0, env', hev, q⟩ := h
  simp only [evE, tst, Bool.false_eq_true, if_false] at hev
  obtain ⟨ra, e1, ha, hev⟩ := bind_ok hev
  obtain ⟨rb, e2, hb, hev⟩ := bind_ok hev
  split at hev
  · rename_i x y hx hy
    obtain ⟨an, h1, rfl, rfl⟩ := prOut_ok hev
    refine ⟨env, ts, s, ra, e1, ha, fun v H1 pk1 s1 => ⟨e1, _, s1, rb, e2, hb, fun u H2 pk2 s2 => ?_⟩⟩
    obtain ⟨M, Fe, Ft, sM⟩ := s2
    obtain ⟨F, g1⟩ := sM.view (v := v) (r := ra) (fun p m => by simp [m]) pk1 hx
    obtain ⟨G, g2⟩ := sM.view (v := u) (r := rb) (fun p m => by simp [m]) pk2 hy
    obtain ⟨Ft', s3⟩ := sM.drop2
    obtain ⟨x', y', e, z⟩ := hp M H2 [x, y] [v, u] an Q sM.mh ⟨⟨F, g1⟩, ⟨G, g2⟩, trivial⟩ h1 (s3.answer fun v' H' s4 => q v' H' trivial s4)
    cases e
    exact z
  · cases hev
theorem one_ {a : CE} {p : P1} {r : V → Hp → VK → Prop} (hp : POk K (lift1 r) (on1 (prim1 p))) {Q : VK} (h : tE K f gcs cl (.p1 p a) σ H Q) : tE K f gcs cl a σ H fun v H1 => r v H1 Q := by
  obtain ⟨env, ts, s, r0, env', hev, q⟩ := h
  simp only [evE, tst, Bool.false_eq_true, if_false] at hev
  obtain ⟨ra, e1, ha, hev⟩ := bind_ok hev
  split at hev
  · rename_i x hx
    obtain ⟨an, h1, rfl, rfl⟩ := prOut_ok hev
    refine ⟨env, ts, s, ra, e1, ha, fun v H1 pk1 s1 => ?_⟩
    obtain ⟨M, Fe, Ft, sM⟩ := s1
    obtain ⟨F, g1⟩ := sM.view (v := v) (r := ra) (fun p m => by simp [m]) pk1 hx
    obtain ⟨Ft', s3⟩ := sM.drops
    obtain ⟨x', e, z⟩ := hp M H1 [x] [v] an Q sM.mh ⟨⟨F, g1⟩, trivial⟩ h1 (s3.answer fun v' H' s4 => q v' H' trivial s4)
    cases e
    exact z
  · cases hev
/-- one operand of a call, as a list -/
theorem one_c {a : CE} {p : P1} {r : List V → Hp → VK → Prop} (hp : POk K r (on1 (prim1 p))) {Q : VK} (h : tE K f gcs cl (.p1 p a) σ H Q) : tE K f gcs cl a σ H fun v H1 => r [v] H1 Q := by
  obtain ⟨env, ts, s, r0, env', hev, q⟩ := h
  simp only [evE, tst, Bool.false_eq_true, if_false] at hev
  obtain ⟨ra, e1, ha, hev⟩ := bind_ok hev
  split at hev
  · rename_i x hx
    obtain ⟨an, h1, rfl, rfl⟩ := prOut_ok hev
    refine ⟨env, ts, s, ra, e1, ha, fun v H1 pk1 s1 => ?_⟩
    obtain ⟨M, Fe, Ft, sM⟩ := s1
    obtain ⟨F, g1⟩ := sM.view (v := v) (r := ra) (fun p m => by simp [m]) pk1 hx
    obtain ⟨Ft', s3⟩ := sM.drops
    exact hp M H1 [x] [v] an Q sM.mh ⟨⟨F, g1⟩, trivial⟩ h1 (s3.answer fun v' H' s4 => q v' H' trivial s4)
  · cases hev
/-- a test that is the truth of a value -/
theorem pt_plain {X : Cx} {e : Expr} {c : CE} (h : PE X e (tE X.K f gcs cl c)) (he : ∀ whole, isTrue e X.env whole = (do let v ← whole; standAt e.pos; holding [v] (truthy v))) (hc : ∀ env, evE gcs cl c true env = tst true (evE gcs cl c false env)) :
    PT X e (tT X.K f gcs cl c) := by
  refine PT.mono (pt_truth h he) fun σ H Q q => ?_
  obtain ⟨env, ts, s, b, env', hev, q⟩ := q
  rw [hc] at hev
  obtain ⟨r, e1, h1, hev⟩ := bind_ok (show (evE gcs cl c false env).bind _ = _ from hev)
  split at hev
  · rename_i x hx
    injection hev with e2 e3
    injection e2 with e2
    injection e2 with e2
    subst e2 e3
    refine ⟨env, ts, s, r, e1, h1, fun v H' pk s1 => ?_⟩
    obtain ⟨M, Fe, Ft, sM⟩ := s1
    obtain ⟨F, g1⟩ := sM.view (v := v) (r := r) (fun p m => by simp [m]) pk hx
    obtain ⟨Ft', s3⟩ := sM.drops
    exact ⟨truth x, truV_ok sM.mh g1, q H' s3.sta⟩
  · cases hev
end
end OI

namespace OI
open PySem L2
section
variable {K : PySem.W.Frag} {f : Frm} {M H : Hp} {σ : St} {env : En} {ts : Tm} {Fe Ft : List Addr} {gcs : List D} {cl : Cl}
theorem Sta.lit {d : D} {v : V} (s : Sta K f H σ env ts) (h : ∀ M H, Rep K M H d v []) : Sta K f H σ env ((v, d) :: ts) := by
  obtain ⟨M, Fe, Ft, s⟩ := s
  exact (s.re_of s.re (ts' := (v, d) :: ts) (Ft' := Ft) ⟨[], Ft, rfl, h M H, s.rt⟩ fun a => Nat.le_refl _).sta
/-- a temporary at any place is frozen -/
theorem Sta.fzR {v : V} {r : R} (s : Sta K f H σ env (tm v r ++ ts)) : Sta K f H σ env (tm v (fzR r) ++ ts) := by
  cases r with
  | pk i => exact s
  | d x =>
    show Sta K f H σ env ((v, if own x then frz x else x) :: ts)
    split
    · obtain ⟨M, Fe, Ft, s⟩ := s
      obtain ⟨M', Ft', s', _⟩ := StaM.freeze (v := v) (d := x) (ts := ts) s
      exact s'.sta
    · exact s
theorem pkok_fz {v : V} {r : R} (h : pkok σ v r) : pkok σ v (fzR r) := by
  cases r with
  | pk i => exact h
  | d x => trivial
theorem views_of : ∀ {vs : List V} {rs : List R} {xs : List D}, StaM K f M H σ env ts Fe Ft → (∀ p ∈ tms vs rs, p ∈ ts) → Ops σ vs rs → resL env rs = some xs → Views K M H xs vs
  | [], [], xs, s, hm, ho, hr => by cases hr; trivial
  | v :: vs, r :: rs, xs, s, hm, ho, hr => by
    unfold resL at hr
    split at hr
    · rename_i y ys h1 h2
      cases hr
      refine ⟨s.view (fun p m => hm p (by unfold tms; exact List.mem_append_left _ m)) ho.1 h1, views_of s (fun p m => hm p (by unfold tms; exact List.mem_append_right _ m)) ho.2 h2⟩
    · cases hr
  | [], r :: rs, xs, s, hm, ho, hr => ho.elim
  | v :: vs, [], xs, s, hm, ho, hr => ho.elim
theorem Views.reps : ∀ {xs : List D} {vs : List V}, Views K M H xs vs → ownL xs = false → Reps K M H xs vs []
  | [], [], _, _ => Reps.nil
  | x :: xs, v :: vs, ⟨⟨F, h1⟩, h2⟩, ho => by
    unfold ownL at ho
    obtain ⟨o1, o2⟩ := Bool.or_eq_false_iff.mp ho
    have e := h1.bare o1
    subst e
    exact Reps.cons h1 (Views.reps h2 o2)
  | [], _ :: _, h, _ => h.elim
  | _ :: _, [], h, _ => h.elim
theorem Views.len : ∀ {xs : List D} {vs : List V}, Views K M H xs vs → vs.length = xs.length
  | [], [], _ => rfl
  | x :: xs, v :: vs, ⟨_, h2⟩ => by rw [List.length_cons, List.length_cons, Views.len h2]
  | [], _ :: _, h => h.elim
  | _ :: _, [], h => h.elim
theorem disp_ok {xs : List D} (h : disp xs = true) : ownL xs = false ∧ xs.length ≤ 1000 := by
  unfold disp at h
  rw [Bool.and_eq_true] at h
  exact ⟨by simpa using h.1, of_decide_eq_true h.2⟩
theorem le1000 {n : Nat} (h : n ≤ 1000) : n ≤ sizeLine := Nat.le_of_lt (small1000 h)
/-- behind a call -/
theorem StaM.called {M' H' : Hp} {v : V} {d : D} {F : List Addr} (s : StaM K f M H σ env ts Fe Ft) (h1 : ∀ b o, M b = some o → M' b = some o) (h2 : ∀ b o, M' b = some o → H' b = some o) (h3 : ∀ b o, M' b = some o → M b = some o ∨ H b = none)
    (h4 : ∀ b o, H b = some o → H' b = some o) (h5 : Rep K M' H' d v F) (h6 : ∀ a, F.count a ≤ 1) (h7 : ∀ a ∈ F, M' a = none ∧ H a = none) : Sta K f H' σ env ((v, d) :: ts) := by
  have old : ∀ a, (a ∈ Fe ∨ a ∈ Ft) → H' a = H a := fun a m => by
    cases q : H a with
    | none => exact absurd q (s.live m)
    | some o => exact h4 a o q
  have nF : ∀ a ∈ F, a ∉ Fe ∧ a ∉ Ft := fun a m => ⟨fun z => s.live (.inl z) (h7 a m).2, fun z => s.live (.inr z) (h7 a m).2⟩
  refine ⟨M', Fe, F ++ Ft, h2, fun b o e => h1 b o (s.mm b o e), fun b o e => ?_, fun b o e nb => h4 b o (s.fr b o e nb), s.re.mono h1 fun a m => old a (.inl m), ⟨F, Ft, rfl, h5, s.rt.mono h1 fun a m => old a (.inr m)⟩, fun a => ?_, fun a m => ?_, fun a m => ?_⟩
  · rcases h3 b o e with q | q
    · exact s.mo b o q
    · by_cases hb : b ∈ f.B
      · exact .inr (.inr hb)
      · cases z : f.H b with
        | none => exact .inr (.inl rfl)
        | some u => rw [s.fr b u z hb] at q; cases q
  · rw [List.count_append]
    have q1 := s.one a
    have q2 := h6 a
    by_cases m : a ∈ F
    · have e1 : Fe.count a = 0 := List.count_eq_zero.mpr (nF a m).1
      have e2 : Ft.count a = 0 := List.count_eq_zero.mpr (nF a m).2
      omega
    · have e1 : F.count a = 0 := List.count_eq_zero.mpr m
      omega
  · have m' : a ∈ F ∨ (a ∈ Fe ∨ a ∈ Ft) := by
      rcases m with m | m
      · exact .inr (.inl m)
      · exact (List.mem_append.mp m).imp id .inr
    rcases m' with m | m
    · exact (h7 a m).1
    · cases q : M' a with
      | none => rfl
      | some o =>
        rcases h3 a o q with z | z
        · rw [s.fm a m] at z; cases z
        · exact absurd z (s.live m)
  · have m' : a ∈ F ∨ (a ∈ Fe ∨ a ∈ Ft) := by
      rcases m with m | m
      · exact .inr (.inl m)
      · exact (List.mem_append.mp m).imp id .inr
    rcases m' with m | m
    · by_cases hb : a ∈ f.B
      · exact .inl hb
      · cases z : f.H a with
        | none => exact .inr rfl
        | some u => have := s.fr a u z hb; rw [(h7 a m).2] at this; cases this
    · exact s.fb a m
/-- a datum's type -/
def tyN : D → String
  | .non => "NoneType"
  | .bl _ => "bool"
  | .int _ => "int"
  | .str _ => "str"
  | .lst _ _ => "list"
  | .tup _ => "tuple"
theorem tyX_ok {x : D} {v : V} {F : List Addr} (hm : ∀ b o, M b = some o → H b = some o) (h : Rep K M H x v F) : TyX K H v (.type (tyN x)) := by
  cases x with
  | non => cases repN h; exact .base .non
  | bl b => cases repB h; exact .base (.bl b)
  | int b => cases repI h; exact .base (.int b)
  | str s => cases (repS h).1; exact .base (.str _)
  | lst o xs =>
    obtain ⟨a, vs, F', e, hs, hr⟩ := repL hm h
    subst e
    rcases hs with (hs | ⟨o, hs⟩) | ⟨o, its, n, h1, h2, _⟩
    · exact .base (.lst hs)
    · exact .base (.frz hs)
    · exact .kList h1 h2
  | tup xs =>
    obtain ⟨a, vs, F', e, hs, hr⟩ := repT hm h
    subst e
    rcases hs with (hs | ⟨o, hs⟩) | ⟨o, its, n, h1, h2, _⟩
    · exact .base (.tup hs)
    · exact .fTuple hs
    · exact .kTuple h1 h2
def Ty.nm : Ty → String
  | .int => "int" | .str => "str" | .bool => "bool" | .list => "list" | .tuple => "tuple"
theorem kit_ok (t : Ty) (x : D) : PySem.W.kitOne K (.type (tyN x)) (.type t.nm) = some (isTy t x) := by
  cases t <;> cases x <;> refine kit_ty ?_ <;> dsimp only [tyN, Ty.nm, isTy] <;> decide +kernel

end
/-! ### the induction -/
section
variable (gcs : List D) (cl : Cl) (n : Nat)
def SndE (c : CE) : Prop := ∀ (k : Ck) (X : Cx) (f : Frm) (e : Expr), XE k gcs cl n X → okE k c e = true → PE X e (tE X.K f gcs cl c) ∧ PT X e (tT X.K f gcs cl c) ∧ ∀ op vs pos, e = .BoolOp op vs pos → PW X e (tT X.K f gcs cl c)
def SndA (c : CE) : Prop := ∀ (k : Ck) (X : Cx) (f : Frm) (es : List Expr), XE k gcs cl n X → okA k c es = true → PA X es (tAr X.K f gcs cl c)
def SndO (c : CE) : Prop := ∀ (k : Ck) (X : Cx) (f : Frm) (o : Option Expr), XE k gcs cl n X → okO k c o = true → PO X o (tOp_ X.K f gcs cl c)
end
section
variable {k : Ck} {gcs : List D} {cl : Cl} {n : Nat}
theorem snd_plain {c : CE} {X : Cx} {f : Frm} {e : Expr} (h : PE X e (tE X.K f gcs cl c)) (he : ∀ whole, isTrue e X.env whole = (do let v ← whole; standAt e.pos; holding [v] (truthy v))) (hc : ∀ env, evE gcs cl c true env = tst true (evE gcs cl c false env))
    (hb : ∀ op vs pos, e ≠ .BoolOp op vs pos) : PE X e (tE X.K f gcs cl c) ∧ PT X e (tT X.K f gcs cl c) ∧ ∀ op vs pos, e = .BoolOp op vs pos → PW X e (tT X.K f gcs cl c) :=
  ⟨h, pt_plain h he hc, fun op vs pos q => absurd q (hb op vs pos)⟩
theorem evE_cst {d : D} {env : En} : evE gcs cl (.cst d) false env = .ok (.d d) env := rfl
theorem lit_E {d : D} {v : V} {X : Cx} {f : Frm} {e : Expr} (h : PE X e (tC v)) (hr : ∀ M H, Rep X.K M H d v []) : PE X e (tE X.K f gcs cl (.cst d)) := by
  refine PE.mono h fun σ H Q q => ?_
  obtain ⟨env, ts, s, r, env', hev, q⟩ := q
  cases hev
  exact q v H trivial (s.lit hr)
theorem s_cst (d : D) : SndE gcs cl n (.cst d) := by
  intro k X f e ok h
  replace h : okCst d e = true := h
  unfold okCst at h
  split at h
  · rename_i j i _ _
    have q := of_decide_eq_true h; subst q
    exact snd_plain (lit_E pe_int fun M H => mkI _) (fun _ => rfl) (fun _ => rfl) (fun _ _ _ z => nomatch z)
  · have q := of_decide_eq_true h; subst q
    exact snd_plain (lit_E pe_bl fun M H => mkB _) (fun _ => rfl) (fun _ => rfl) (fun _ _ _ z => nomatch z)
  · exact snd_plain (lit_E pe_non fun M H => mkN) (fun _ => rfl) (fun _ => rfl) (fun _ _ _ z => nomatch z)
  · rw [Bool.and_eq_true] at h
    have q := of_decide_eq_true h.1; subst q
    exact snd_plain (lit_E pe_str fun M H => mkS _ (by rw [← lineN_eq]; exact of_decide_eq_true h.2)) (fun _ => rfl) (fun _ => rfl) (fun _ _ _ z => nomatch z)
  · cases h
theorem s_gc (j : Nat) : SndE gcs cl n (.gc j) := by
  intro k X f e ok h
  replace h : okGc k j e = true := h
  unfold okGc at h
  split at h
  · rename_i x pos
    simp only [Bool.and_eq_true] at h
    obtain ⟨v, u, d, h1, h2, h3, h4⟩ := ok.gc j x (isB_eq h.1)
    have g : PE X (.Name x pos) (tE X.K f gcs cl (.gc j)) := by
      refine PE.mono (pe_glob (glB_ok (by rw [ok.hsc]; exact h.2.1)) h1 h2 (of_decide_eq_true h.2.2)) fun σ H Q q => ?_
      obtain ⟨env, ts, s, r, env', hev, q⟩ := q
      simp only [evE, tst, Bool.false_eq_true, if_false, h3] at hev
      cases hev
      exact q v H trivial (s.lit h4)
    exact snd_plain g (fun _ => rfl) (fun _ => rfl) (fun _ _ _ z => nomatch z)
  · cases h
theorem okVar_ok {i : Nat} {e : Expr} (h : okVar k i e = true) : ∃ x pos, e = .Name x pos ∧ ∀ X, XE k gcs cl n X → PE X e (tVar i) := by
  unfold okVar at h
  split at h
  · rename_i x pos
    simp only [Bool.and_eq_true] at h
    exact ⟨x, pos, rfl, fun X ok => pe_var (by rw [ok.hN]; exact isB_eq h.1) (visB_ok (by rw [ok.hsc]; exact h.2.1)) (of_decide_eq_true h.2.2.1) (of_decide_eq_true h.2.2.2)⟩
  · cases h
theorem s_var (i : Nat) : SndE gcs cl n (.var i) := by
  intro k X f e ok h
  obtain ⟨x, pos, rfl, pe⟩ := okVar_ok (gcs := gcs) (cl := cl) (n := n) (show okVar k i e = true from h)
  have g : PE X (.Name x pos) (tE X.K f gcs cl (.var i)) := by
    refine PE.mono (pe X ok) fun σ H Q q => ?_
    obtain ⟨env, ts, ⟨M, Fe, Ft, s⟩, r, env', hev, q⟩ := q
    simp only [evE, tst, Bool.false_eq_true, if_false] at hev
    split at hev
    · rename_i d hd
      split at hev
      · cases hev
        obtain ⟨v, h1, h2⟩ := s.varF hd
        exact ⟨v, h1, q v H trivial h2⟩
      · rename_i ho
        cases hev
        obtain ⟨v, h1, h2⟩ := s.var hd (by simpa using ho)
        exact ⟨v, h1, q v H trivial h2.sta⟩
    · cases hev
  exact snd_plain g (fun _ => rfl) (fun _ => rfl) (fun _ _ _ z => nomatch z)
theorem s_mov (i : Nat) : SndE gcs cl n (.mov i) := by
  intro k X f e ok h
  obtain ⟨x, pos, rfl, pe⟩ := okVar_ok (gcs := gcs) (cl := cl) (n := n) (show okVar k i e = true from h)
  have g : PE X (.Name x pos) (tE X.K f gcs cl (.mov i)) := by
    refine PE.mono (pe X ok) fun σ H Q q => ?_
    obtain ⟨env, ts, ⟨M, Fe, Ft, s⟩, r, env', hev, q⟩ := q
    simp only [evE, tst, Bool.false_eq_true, if_false] at hev
    split at hev
    · rename_i d hd
      cases hev
      obtain ⟨v, _, _, h1, h2⟩ := s.mov hd
      exact ⟨v, h1, q v H trivial h2.sta⟩
    · cases hev
  exact snd_plain g (fun _ => rfl) (fun _ => rfl) (fun _ _ _ z => nomatch z)
theorem s_pk (i : Nat) : SndE gcs cl n (.pk i) := by
  intro k X f e ok h
  obtain ⟨x, pos, rfl, pe⟩ := okVar_ok (gcs := gcs) (cl := cl) (n := n) (show okVar k i e = true from h)
  have g : PE X (.Name x pos) (tE X.K f gcs cl (.pk i)) := by
    refine PE.mono (pe X ok) fun σ H Q q => ?_
    obtain ⟨env, ts, ⟨M, Fe, Ft, s⟩, r, env', hev, q⟩ := q
    simp only [evE, tst, Bool.false_eq_true, if_false] at hev
    split at hev
    · rename_i d hd
      cases hev
      obtain ⟨v, F', h1, h2⟩ := s.slot hd
      exact ⟨v, h1, q v H h1 s.sta⟩
    · cases hev
  exact snd_plain g (fun _ => rfl) (fun _ => rfl) (fun _ _ _ z => nomatch z)
theorem boot_i : bootBuiltins (Str.ofString "int") = some (.type "int") := by decide +kernel
theorem boot_s : bootBuiltins (Str.ofString "str") = some (.type "str") := by decide +kernel
theorem boot_b : bootBuiltins (Str.ofString "bool") = some (.type "bool") := by decide +kernel
theorem boot_l : bootBuiltins (Str.ofString "list") = some (.type "list") := by decide +kernel
theorem boot_t : bootBuiltins (Str.ofString "tuple") = some (.type "tuple") := by decide +kernel
theorem boot_isinst : bootBuiltins (Str.ofString "isinstance") = some (.builtin "isinstance") := by decide +kernel
theorem mem_blt {x : Str} (h : x ∈ bltNames) {X : Cx} (ok : XE k gcs cl n X) : X.mg x = none := ok.blt x h
theorem s_p1 (p : P1) (a : CE) (ih : SndE gcs cl n a) : SndE gcs cl n (.p1 p a) := by
  intro k X f e ok h
  replace h : okP1 k p (okE k a) e = true := h
  unfold okP1 at h
  split at h
  · rename_i e pos
    rw [Bool.and_eq_true] at h
    have q := of_decide_eq_true h.1; subst q
    obtain ⟨r, hr, hp⟩ := ok_neg (X := X)
    exact snd_plain (PE.mono (pe_un hr (ih k X f e ok h.2).1) fun σ H Q q => one_ hp q) (fun _ => rfl) (fun _ => rfl) (fun _ _ _ z => nomatch z)
  · rename_i x p0 e pos
    simp only [Bool.and_eq_true] at h
    have ha := (ih k X f e ok h.2.2.2).1
    have st : starEach [e] X.env = (false, eval e X.env) :: starEach [] X.env := star_of h.2.2.1
    have pa : PA X [e] (tCons (tE X.K f gcs cl a) tNil) := pa_cons ha pa_nil st
    have hg : Gl X x := glB_ok (by rw [ok.hsc]; exact h.2.1)
    cases p with
    | neg => cases h.1
    | join => cases h.1
    | len =>
      have q : x = "len" := of_decide_eq_true h.1
      subst q
      refine snd_plain (PE.mono (pe_callB call_len hg (ok.blt _ (by decide +kernel)) PySem.boot_len pa (by decide) (by decide) st rfl) fun σ H Q q => ?_) (fun _ => rfl) (fun _ => rfl) (fun _ _ _ z => nomatch z)
      exact one_c ok_len q
    | int =>
      have q : x = "int" := of_decide_eq_true h.1
      subst q
      refine snd_plain (PE.mono (pe_callTy (call_int1.or call_int_str) hg (ok.blt _ (by decide +kernel)) boot_i pa (by decide) (by decide) st rfl) fun σ H Q q => ?_) (fun _ => rfl) (fun _ => rfl) (fun _ _ _ z => nomatch z)
      exact one_c ok_toint q
  · rename_i z k1 p1 m ap e cp
    simp only [Bool.and_eq_true] at h
    obtain ⟨h1, h2, h3, h4, h5, h6⟩ := h
    have q1 := of_decide_eq_true h1
    have q2 := of_decide_eq_true h2
    have q3 := of_decide_eq_true h3
    have q4 := of_decide_eq_true h4
    subst q1 q2 q3
    have ha := (ih k X f e ok h6).1
    have st : starEach [e] X.env = (false, eval e X.env) :: starEach [] X.env := star_of h5
    have pa : PA X [e] (tCons (tE X.K f gcs cl a) tNil) := pa_cons ha pa_nil st
    refine snd_plain (PE.mono (pe_bm PySem.F.plainAttrs_str PySem.F.slot_str_join PySem.F.type_str_join mt_join pe_str pa rfl (by rw [st]; rfl) (by rw [q4]; exact beq_self_eq_true _) st rfl) fun σ H Q q => ?_) (fun _ => rfl) (fun _ => rfl) (fun _ _ _ z => nomatch z)
    exact ⟨rfl, one_c (r := fun xs H Q => (V.str ⟨#[]⟩ = V.str ⟨#[]⟩) ∧ rJoin X.K xs H Q) (fun M H ds vs a Q h1 h2 h3 h4 => ⟨rfl, ok_join M H ds vs a Q h1 h2 h3 h4⟩) q⟩
  · cases h

theorem cmp_bl {p : P2} {op : CmpOp} (hc : cmpB op p = true) {x y : D} {a : PR} (h : prim2 p x y = some a) : ∃ b, a = .val (.bl b) := by
  have hi : ∀ {g : Int → Int → Bool}, pInt (fun i j => some (.val (.bl (g i j)))) x y = some a → ∃ b, a = .val (.bl b) := fun {g} h => by
    cases x <;> cases y <;> simp only [pInt] at h <;> first | (cases h; exact ⟨_, rfl⟩) | (cases h; done)
  cases op <;> cases p <;> first
    | (cases hc; done)
    | exact (vB_some h).elim fun b q => ⟨_, q.2⟩
    | exact (vNB_some h).elim fun b q => ⟨_, q.2⟩
    | exact hi h
/-- a comparison as a test -/
theorem twoT {K : PySem.W.Frag} {f : Frm} {σ : St} {H : Hp} {a b : CE} {p : P2} {op : CmpOp} {r : R2} (hc : cmpB op p = true) (hp : POk K (lift2 r) (on2 (prim2 p))) {Q : Bool → Hp → Prop} (h : tT K f gcs cl (.p2 p a b) σ H Q) : tTest (tOp r (tE K f gcs cl a) (tE K f gcs cl b)) σ H Q := by
  refine two hp ?_
  obtain ⟨env, ts, s, b0, env', hev, q⟩ := h
  simp only [evE, tst, if_true] at hev
  obtain ⟨r1, e3, h1, h2⟩ := bind_ok hev
  obtain ⟨ra, e1, ha, h1⟩ := bind_ok h1
  obtain ⟨rb, e2, hb, h1⟩ := bind_ok h1
  split at h1
  · rename_i x y hx hy
    obtain ⟨an, g1, rfl, rfl⟩ := prOut_ok h1
    obtain ⟨c, rfl⟩ := cmp_bl hc g1
    cases h2
    refine ⟨env, ts, s, .d (.bl c), env', ?_, fun v H' _ s1 => ?_⟩
    · simp only [evE, tst, PR.dat, Bool.false_eq_true, if_false, ha, Out.bind, hb, hx, hy, g1, prOut]
    · obtain ⟨M, Fe, Ft, sM⟩ := s1
      obtain ⟨F, g⟩ := sM.temp (p := (v, .bl c)) (by simp [tm])
      obtain ⟨_, s3⟩ := sM.drops
      exact ⟨c, repB g, q H' s3.sta⟩
  · cases h1
theorem s_p2 (p : P2) (a b : CE) (iha : SndE gcs cl n a) (ihb : SndE gcs cl n b) : SndE gcs cl n (.p2 p a b) := by
  intro k X f e ok h
  replace h : okP2 p (okE k a) (okE k b) e = true := h
  unfold okP2 at h
  split at h
  · rename_i x op y pos
    simp only [Bool.and_eq_true] at h
    have ha := (iha k X f x ok h.2.1).1
    have hb := (ihb k X f y ok h.2.2).1
    have key : (∃ r, OpR X (binaryOp op) r ∧ POk X.K (lift2 r) (on2 (prim2 p))) := by
      cases op <;> cases p <;> first | (cases h.1; done) | exact ok_add | exact ok_sub | exact ok_mul | exact ok_fdiv | exact ok_mod | exact ok_pow
    obtain ⟨r, hr, hp⟩ := key
    exact snd_plain (PE.mono (pe_op hr ha hb) fun σ H Q q => two hp q) (fun _ => rfl) (fun _ => rfl) (fun _ _ _ z => nomatch z)
  · rename_i x op y pos
    simp only [Bool.and_eq_true] at h
    have ha := (iha k X f x ok h.2.2.1).1
    have hb := (ihb k X f y ok h.2.2.2).1
    have key : (∃ r, OpR X (compareOp op) r ∧ POk X.K (lift2 r) (on2 (prim2 p))) := by
      cases op <;> cases p <;> first | (cases h.1; done) | exact ok_eq ok.room.units | exact ok_ne ok.room.units | exact ok_lt | exact ok_le | exact ok_gt | exact ok_ge | exact ok_in | exact ok_nin | exact ok_is | exact ok_isnot
    obtain ⟨r, hr, hp⟩ := key
    exact ⟨PE.mono (pe_cmpR hr ha hb (mark_of h.2.1)) fun σ H Q q => two hp q, PT.mono (pt_cmpR hr ha hb (mark_of h.2.1)) fun σ H Q q => twoT h.1 hp q, fun _ _ _ z => nomatch z⟩
  · rename_i x y pos
    simp only [Bool.and_eq_true] at h
    have q := of_decide_eq_true h.1; subst q
    have ha := (iha k X f x ok h.2.2.1).1
    have hb := (ihb k X f y ok h.2.2.2).1
    obtain ⟨r, hr, hp⟩ := ok_idx (X := X)
    exact snd_plain (PE.mono (pe_ix hr ha hb (plainIx h.2.1)) fun σ H Q q => two hp q) (fun _ => rfl) (fun _ => rfl) (fun _ _ _ z => nomatch z)
  · cases h
theorem ty_boot {t : Ty} {y : Str} (h : tyB t y = true) : bootBuiltins y = some (.type t.nm) ∧ y ∈ bltNames ∧ y ≠ "__name__" ∧ (y == ("__debug__" : Str)) = false := by
  cases t <;> (have q := of_decide_eq_true h; subst q; first
    | exact ⟨boot_i, by decide +kernel, by decide, by decide⟩
    | exact ⟨boot_s, by decide +kernel, by decide, by decide⟩
    | exact ⟨boot_b, by decide +kernel, by decide, by decide⟩
    | exact ⟨boot_l, by decide +kernel, by decide, by decide⟩
    | exact ⟨boot_t, by decide +kernel, by decide, by decide⟩)
theorem s_isi (a : CE) (t : Ty) (ih : SndE gcs cl n a) : SndE gcs cl n (.isi a t) := by
  intro k X f e ok h
  replace h : okIsi k t (okE k a) e = true := h
  unfold okIsi at h
  split at h
  · rename_i x p0 e y p1 pos
    simp only [Bool.and_eq_true] at h
    have q := of_decide_eq_true h.1; subst q
    have ha := (ih k X f e ok h.2.2.2.2.2).1
    obtain ⟨b1, b2, b3, b4⟩ := ty_boot h.2.2.1
    have st : starEach [e, .Name y p1] X.env = (false, eval e X.env) :: starEach [.Name y p1] X.env := star_of h.2.2.2.2.1
    have pa : PA X [e, .Name y p1] (tCons (tE X.K f gcs cl a) (tCons (tC (.ty t.nm)) tNil)) := pa_cons ha (pa_cons (pe_bltn (glB_ok (by rw [ok.hsc]; exact h.2.2.2.1)) (ok.blt _ b2) b1 rfl b3 b4) pa_nil) st
    refine snd_plain (PE.mono (pe_callB call_isi (glB_ok (by rw [ok.hsc]; exact h.2.1)) (ok.blt _ (by decide +kernel)) boot_isinst pa (by decide) (by decide) st rfl) fun σ H Q q => ?_) (fun _ => rfl) (fun _ => rfl) (fun _ _ _ z => nomatch z)
    obtain ⟨env, ts, s, r, env', hev, q⟩ := q
    simp only [evE, tst, Bool.false_eq_true, if_false] at hev
    obtain ⟨ra, e1, h1, hev⟩ := bind_ok hev
    split at hev
    · rename_i x hx
      cases hev
      refine ⟨env, ts, s, ra, _, h1, fun v H1 pk1 s1 => ?_⟩
      obtain ⟨M, Fe, Ft, sM⟩ := s1
      obtain ⟨F, g1⟩ := sM.view (v := v) (r := ra) (fun p m => by simp [m]) pk1 hx
      obtain ⟨Ft', s3⟩ := sM.drops
      exact ⟨v, .ty t.nm, .type (tyN x), .type t.nm, isTy t x, rfl, .ty _, tyX_ok sM.mh g1, kit_ok t x, q _ _ trivial (s3.sta.lit fun M H => mkB _)⟩
    · cases hev
  · cases h
theorem s_slc (a lo hi : CE) (ih : SndE gcs cl n a) (ihl : SndO gcs cl n lo) (ihh : SndO gcs cl n hi) : SndE gcs cl n (.slc a lo hi) := by
  intro k X f e ok h
  replace h : okSlc (okE k a) (okO k lo) (okO k hi) e = true := h
  unfold okSlc at h
  split at h
  · rename_i x l hh p2 pos
    simp only [Bool.and_eq_true] at h
    have ha := (ih k X f x ok h.1).1
    refine snd_plain (PE.mono (pe_slice (sl_list.or sl_str) ha (ihl k X f l ok h.2.1) (ihh k X f hh ok h.2.2)) fun σ H Q q => ?_) (fun _ => rfl) (fun _ => rfl) (fun _ _ _ z => nomatch z)
    obtain ⟨env, ts, s, r, env', hev, q⟩ := q
    simp only [evE, tst, Bool.false_eq_true, if_false] at hev
    obtain ⟨ra, e1, h1, hev⟩ := bind_ok hev
    obtain ⟨ol, e2, h2, hev⟩ := bind_ok hev
    obtain ⟨oh, e3, h3, hev⟩ := bind_ok hev
    split at hev
    · rename_i x hx
      obtain ⟨an, g1, rfl, rfl⟩ := prOut_ok hev
      refine ⟨env, ts, s, ra, e1, h1, fun v H1 pk1 s1 => ⟨e1, _, s1, ol, e2, h2, fun H2 s2 => ⟨e2, _, s2, oh, e3, h3, fun H3 s3 => ?_⟩⟩⟩
      obtain ⟨M, Fe, Ft, sM⟩ := s3
      obtain ⟨F, g⟩ := sM.view (v := v) (r := ra) (fun p m => by simp [m]) pk1 hx
      obtain ⟨Ft', s4⟩ := sM.drops
      exact ok_slice sM.mh g g1 (s4.answer fun v' H' s5 => q v' H' trivial s5)
    · cases hev
  · cases h
theorem s_tup (as : CE) (ih : SndA gcs cl n as) : SndE gcs cl n (.tupE as) := by
  intro k X f e ok h
  replace h : okTup (okA k as) e = true := h
  unfold okTup at h
  split at h
  · rename_i es k1 pos
    refine snd_plain (PE.mono (pe_tup (ih k X f es ok h)) fun σ H Q q => ?_) (fun _ => rfl) (fun _ => rfl) (fun _ _ _ z => nomatch z)
    obtain ⟨env, ts, s, r, env', hev, q⟩ := q
    simp only [evE, tst, Bool.false_eq_true, if_false] at hev
    obtain ⟨rs, e1, h1, hev⟩ := bind_ok hev
    split at hev
    · rename_i xs hx
      split at hev
      · rename_i hd
        cases hev
        obtain ⟨d1, d2⟩ := disp_ok hd
        refine ⟨env, ts, s, rs, _, h1, fun vs H1 ho s1 => ?_⟩
        obtain ⟨M, Fe, Ft, sM⟩ := s1
        have vw := views_of sM (fun p m => by simp [m]) ho hx
        obtain ⟨Ft', s3⟩ := sM.drops
        exact ⟨by rw [vw.len]; exact le1000 d2, fun p np => q _ _ trivial (s3.newT np (vw.reps d1))⟩
      · cases hev
    · cases hev
  · cases h
theorem s_lst (as : CE) (ih : SndA gcs cl n as) : SndE gcs cl n (.lstE as) := by
  intro k X f e ok h
  replace h : okLst (okA k as) e = true := h
  unfold okLst at h
  split at h
  · rename_i es pos
    refine snd_plain (PE.mono (pe_lst (ih k X f es ok h)) fun σ H Q q => ?_) (fun _ => rfl) (fun _ => rfl) (fun _ _ _ z => nomatch z)
    obtain ⟨env, ts, s, r, env', hev, q⟩ := q
    simp only [evE, tst, Bool.false_eq_true, if_false] at hev
    obtain ⟨rs, e1, h1, hev⟩ := bind_ok hev
    split at hev
    · rename_i xs hx
      split at hev
      · rename_i hd
        cases hev
        obtain ⟨d1, d2⟩ := disp_ok hd
        refine ⟨env, ts, s, rs, _, h1, fun vs H1 ho s1 => ?_⟩
        obtain ⟨M, Fe, Ft, sM⟩ := s1
        have vw := views_of sM (fun p m => by simp [m]) ho hx
        obtain ⟨Ft', s3⟩ := sM.drops
        exact ⟨by rw [vw.len]; exact le1000 d2, fun p np => q _ _ trivial (s3.newL np (vw.reps d1))⟩
      · cases hev
    · cases hev
  · cases h
theorem s_call (j : Nat) (as : CE) (ih : SndA gcs cl n as) : SndE gcs cl n (.call j as) := by
  intro k X f e ok h
  replace h : okCall k j (okA k as) e = true := h
  unfold okCall at h
  split at h
  · rename_i x p0 e es pos
    simp only [Bool.and_eq_true] at h
    obtain ⟨fa, fd, ps, m1, m2, m3, m5, m4⟩ := ok.fns j x (isB_eq h.1)
    have pl : plainB e = true := by
      have z := h.2.2.2
      cases as <;> simp only [okA] at z <;> first | (cases z; done) | (simp only [Bool.and_eq_true] at z; exact z.1)
    have pls : ∀ (c : CE) (es : List Expr) (pos : Pos), okA k c es = true → (backTo pos (starEach es X.env)).any (·.1) = false := by
      intro c
      induction c with
      | nil => intro es pos z; cases es with
        | nil => rfl
        | cons _ _ => cases z
      | cons a as _ iha =>
        intro es pos z
        cases es with
        | nil => cases z
        | cons e es =>
          simp only [okA, Bool.and_eq_true] at z
          rw [star_of z.1]
          show (false || (backTo pos (starEach es X.env)).any (·.1)) = false
          rw [iha es pos z.2.2]; rfl
      | _ => intro es pos z; cases z
    have hpl : (backTo pos (starEach es X.env)).any (·.1) = false := by
      have z := h.2.2.2
      cases as <;> simp only [okA] at z <;> first | (cases z; done) | (simp only [Bool.and_eq_true] at z; exact pls _ es pos z.2.2)
    refine snd_plain (PE.mono (pe_call (E := E0) m4 ok.room (glB_ok (by rw [ok.hsc]; exact h.2.1)) m1 m2 m3 .nil pass0 (ih k X f _ ok h.2.2.2) (of_decide_eq_true h.2.2.1) (star_of pl) hpl) fun σ H Q q => ?_) (fun _ => rfl) (fun _ => rfl) (fun _ _ _ z => nomatch z)
    obtain ⟨env, ts, s, r, env', hev, q⟩ := q
    simp only [evE, tst, Bool.false_eq_true, if_false] at hev
    obtain ⟨rs, e1, h1, hev⟩ := bind_ok hev
    split at hev
    · rename_i xs hx
      split at hev
      · rename_i hd
        obtain ⟨d1, d2⟩ := disp_ok hd
        split at hev
        · rename_i d hcl
          cases hev
          refine ⟨env, ts, s, rs, _, h1, fun vs H1 ho s1 => ?_⟩
          obtain ⟨M, Fe, Ft, sM⟩ := s1
          have vw := views_of sM (fun p m => by simp [m]) ho hx
          obtain ⟨Ft', s3⟩ := sM.drops
          show spOf X.K ps.length (cl j) (vs ++ []) H1 Q E0
          rw [List.append_nil]
          exact ⟨M, xs, d, by rw [vw.len]; exact m5 _ _ hcl, sM.mh, vw.reps d1, hcl, fun v H' M' F h1 h2 h3 h4 h5 h6 h7 => q v H' trivial (s3.called h1 h2 h3 h4 h5 h6 h7)⟩
        · cases hev
        · cases hev
      · cases hev
    · cases hev
  · cases h

theorem s_nil : SndA gcs cl n .nil := by
  intro k X f es ok h
  cases es with
  | cons _ _ => cases h
  | nil =>
    refine PA.mono pa_nil fun σ H Q q => ?_
    obtain ⟨env, ts, s, rs, env', hev, q⟩ := q
    cases hev
    exact q [] H trivial s
theorem s_cons (a as : CE) (iha : SndE gcs cl n a) (ih : SndA gcs cl n as) : SndA gcs cl n (.cons a as) := by
  intro k X f es ok h
  cases es with
  | nil => cases h
  | cons e es =>
    simp only [okA, Bool.and_eq_true] at h
    refine PA.mono (pa_cons (iha k X f e ok h.2.1).1 (ih k X f es ok h.2.2) (star_of h.1)) fun σ H Q q => ?_
    obtain ⟨env, ts, s, rs, env', hev, q⟩ := q
    simp only [evA] at hev
    obtain ⟨r, e1, h1, hev⟩ := bind_ok hev
    obtain ⟨rs', e2, h2, hev⟩ := bind_ok hev
    cases hev
    refine ⟨env, ts, s, r, e1, h1, fun v H1 pk s1 => ⟨e1, tm v (fzR r) ++ ts, s1.fzR, rs', _, h2, fun vs H2 ho s2 => ?_⟩⟩
    refine q (v :: vs) H2 ⟨pkok_fz pk, ho⟩ (s2.perm ?_)
    show (tms vs rs' ++ (tm v (fzR r) ++ ts)).Perm ((tm v (fzR r) ++ tms vs rs') ++ ts)
    rw [List.append_assoc, ← List.append_assoc, ← List.append_assoc]
    exact List.Perm.append_right _ List.perm_append_comm
theorem s_noE : SndO gcs cl n .noE := by
  intro k X f o ok h
  cases o with
  | some _ => cases h
  | none =>
    refine PO.mono po_none fun σ H Q q => ?_
    obtain ⟨env, ts, s, o, env', hev, q⟩ := q
    cases hev
    exact q H s
theorem s_so (a : CE) (ih : SndE gcs cl n a) : SndO gcs cl n (.so a) := by
  intro k X f o ok h
  cases o with
  | none => cases h
  | some e =>
    refine PO.mono (po_some (ih k X f e ok h).1) fun σ H Q q => ?_
    obtain ⟨env, ts, s, o, env', hev, q⟩ := q
    simp only [evO] at hev
    obtain ⟨r, e1, h1, hev⟩ := bind_ok hev
    split at hev
    · rename_i i hx
      cases hev
      refine ⟨env, ts, s, r, _, h1, fun v H1 pk s1 => ?_⟩
      obtain ⟨M, Fe, Ft, sM⟩ := s1
      obtain ⟨F, g⟩ := sM.view (v := v) (r := r) (fun p m => by simp [m]) pk hx
      obtain ⟨Ft', s4⟩ := sM.drops
      exact ⟨i, repI g, q H1 s4.sta⟩
    · cases hev
theorem s_one (a : CE) (ih : SndE gcs cl n a) : SndE gcs cl n (.one a) := by
  intro k X f e ok h
  replace h : okOne (okE k a) e = true := h
  unfold okOne at h
  split at h
  · rename_i op e pos
    obtain ⟨h1, h2, _⟩ := ih k X f e ok h
    have w : PW X (.BoolOp op [e] pos) (tT X.K f gcs cl (.one a)) := by
      cases op
      · exact pw_and1 h2
      · exact pw_or1 h2
    exact ⟨pe_one h1, w.pt, fun _ _ _ _ => w⟩
  · cases h
/-- the first part of and, or, as a value -/
theorem part {K : PySem.W.Frag} {f : Frm} {σ : St} {H : Hp} {a : CE} {env e1 : En} {ts : Tm} {r : R} {c : Bool} {Q : VK} (s : Sta K f H σ env ts) (h : evE gcs cl a false env = .ok r e1) (hr : res e1 r = some (.bl c)) (q : ∀ H', Sta K f H' σ e1 ts → Q (.bl c) H') : tE K f gcs cl a σ H Q := by
  refine ⟨env, ts, s, r, e1, h, fun v H1 pk s1 => ?_⟩
  obtain ⟨M, Fe, Ft, sM⟩ := s1
  obtain ⟨F, g⟩ := sM.view (v := v) (r := r) (fun p m => by simp [m]) pk hr
  obtain ⟨Ft', s4⟩ := sM.drops
  rw [repB g]
  exact q H1 s4.sta
theorem tv_t {e : En} {r : R} {x : D} (h : tv true e r = some x) : r = .d x := by
  cases r with
  | d y => cases h; rfl
  | pk i => cases h
theorem s_and (a b : CE) (iha : SndE gcs cl n a) (ihb : SndE gcs cl n b) : SndE gcs cl n (.and_ a b) := by
  intro k X f e ok h
  replace h : okAnd (okE k a) (okE k b) e = true := h
  unfold okAnd at h
  split at h
  · rename_i x y rr pos
    rw [Bool.and_eq_true] at h
    obtain ⟨a1, a2, _⟩ := iha k X f x ok h.1
    obtain ⟨b1, b2, b3⟩ := ihb k X f _ ok h.2
    have w : PW X (.BoolOp .And (x :: y :: rr) pos) (tT X.K f gcs cl (.and_ a b)) := by
      refine PW.mono (pw_and a2 (b3 _ _ _ rfl)) fun σ H Q q => ?_
      obtain ⟨env, ts, s, c, env', hev, q⟩ := q
      simp only [evE] at hev
      obtain ⟨r, e1, h1, hev⟩ := bind_ok hev
      split at hev
      · rename_i hx
        cases tv_t hx
        exact ⟨env, ts, s, true, e1, h1, fun H1 s1 => iteT ⟨e1, ts, s1, c, env', hev, q⟩⟩
      · rename_i hx
        cases tv_t hx
        cases hev
        exact ⟨env, ts, s, false, _, h1, fun H1 s1 => iteF (q H1 s1)⟩
      · cases hev
    refine ⟨PE.mono (pe_and a1 b1) fun σ H Q q => ?_, w.pt, fun _ _ _ _ => w⟩
    obtain ⟨env, ts, s, r0, env', hev, q⟩ := q
    simp only [evE] at hev
    obtain ⟨r, e1, h1, hev⟩ := bind_ok hev
    split at hev
    · rename_i hx
      exact part s h1 hx fun H1 s1 => ⟨true, rfl, iteT ⟨e1, ts, s1, r0, env', hev, q⟩⟩
    · rename_i hx
      cases hev
      exact part s h1 hx fun H1 s1 => ⟨false, rfl, iteF (q _ _ trivial (s1.lit fun M H => mkB _))⟩
    · cases hev
  · cases h
theorem s_or (a b : CE) (iha : SndE gcs cl n a) (ihb : SndE gcs cl n b) : SndE gcs cl n (.or_ a b) := by
  intro k X f e ok h
  replace h : okOr (okE k a) (okE k b) e = true := h
  unfold okOr at h
  split at h
  · rename_i x y rr pos
    rw [Bool.and_eq_true] at h
    obtain ⟨a1, a2, _⟩ := iha k X f x ok h.1
    obtain ⟨b1, b2, b3⟩ := ihb k X f _ ok h.2
    have w : PW X (.BoolOp .Or (x :: y :: rr) pos) (tT X.K f gcs cl (.or_ a b)) := by
      refine PW.mono (pw_or a2 (b3 _ _ _ rfl)) fun σ H Q q => ?_
      obtain ⟨env, ts, s, c, env', hev, q⟩ := q
      simp only [evE] at hev
      obtain ⟨r, e1, h1, hev⟩ := bind_ok hev
      split at hev
      · rename_i hx
        cases tv_t hx
        cases hev
        exact ⟨env, ts, s, true, _, h1, fun H1 s1 => iteT (q H1 s1)⟩
      · rename_i hx
        cases tv_t hx
        exact ⟨env, ts, s, false, e1, h1, fun H1 s1 => iteF ⟨e1, ts, s1, c, env', hev, q⟩⟩
      · cases hev
    refine ⟨PE.mono (pe_or a1 b1) fun σ H Q q => ?_, w.pt, fun _ _ _ _ => w⟩
    obtain ⟨env, ts, s, r0, env', hev, q⟩ := q
    simp only [evE] at hev
    obtain ⟨r, e1, h1, hev⟩ := bind_ok hev
    split at hev
    · rename_i hx
      cases hev
      exact part s h1 hx fun H1 s1 => ⟨true, rfl, iteT (q _ _ trivial (s1.lit fun M H => mkB _))⟩
    · rename_i hx
      exact part s h1 hx fun H1 s1 => ⟨false, rfl, iteF ⟨e1, ts, s1, r0, env', hev, q⟩⟩
    · cases hev
  · cases h
theorem s_not (a : CE) (ih : SndE gcs cl n a) : SndE gcs cl n (.not_ a) := by
  intro k X f e ok h
  replace h : okNot (okE k a) e = true := h
  unfold okNot at h
  split at h
  · rename_i x pos
    obtain ⟨a1, a2, _⟩ := ih k X f x ok h
    refine ⟨PE.mono (pe_not a1) fun σ H Q q => ?_, PT.mono (pt_not a2) fun σ H Q q => ?_, fun _ _ _ z => nomatch z⟩
    · obtain ⟨env, ts, s, r0, env', hev, q⟩ := q
      simp only [evE] at hev
      obtain ⟨r, e1, h1, hev⟩ := bind_ok hev
      split at hev
      · rename_i c hx
        cases hev
        exact part s h1 hx fun H1 s1 => ⟨c, rfl, q _ _ trivial (s1.lit fun M H => mkB _)⟩
      · cases hev
    · obtain ⟨env, ts, s, c, env', hev, q⟩ := q
      simp only [evE] at hev
      obtain ⟨r, e1, h1, hev⟩ := bind_ok hev
      split at hev
      · rename_i c' hx
        cases tv_t hx
        cases hev
        exact ⟨env, ts, s, c', _, h1, fun H1 s1 => q H1 s1⟩
      · cases hev
  · cases h
theorem s_if (t a b : CE) (iht : SndE gcs cl n t) (iha : SndE gcs cl n a) (ihb : SndE gcs cl n b) : SndE gcs cl n (.ifE t a b) := by
  intro k X f e ok h
  replace h : okIf (okE k t) (okE k a) (okE k b) e = true := h
  unfold okIf at h
  split at h
  · rename_i c x y pos
    simp only [Bool.and_eq_true] at h
    obtain ⟨_, t2, _⟩ := iht k X f c ok h.1
    obtain ⟨a1, _, _⟩ := iha k X f x ok h.2.1
    obtain ⟨b1, _, _⟩ := ihb k X f y ok h.2.2
    refine ⟨PE.mono (pe_ifExp t2 a1 b1) fun σ H Q q => ?_, ⟨fun pins s σ H Q I q => ?_⟩, fun _ _ _ z => nomatch z⟩
    · obtain ⟨env, ts, s, r0, env', hev, q⟩ := q
      simp only [evE, Bool.false_eq_true, if_false] at hev
      obtain ⟨r, e1, h1, hev⟩ := bind_ok hev
      split at hev
      · rename_i hx
        cases tv_t hx
        exact ⟨env, ts, s, true, e1, h1, fun H1 s1 => iteT ⟨e1, ts, s1, r0, env', hev, q⟩⟩
      · rename_i hx
        cases tv_t hx
        exact ⟨env, ts, s, false, e1, h1, fun H1 s1 => iteF ⟨e1, ts, s1, r0, env', hev, q⟩⟩
      · cases hev
    · obtain ⟨env, ts, s, c, env', hev, q⟩ := q
      cases hev
  · cases h
end
end OI

/-! walks, statements -/
namespace L2
open PySem PySem.Spec PyProof.Rows
/-- enumerate(text) -/
def IteS (x : Str) : It := ⟨fun i _ => i < x.cps.size, fun i H v H' => ∃ T c, v = .ref T ∧ H T = none ∧ H' = upd H T (.tup [.int (i : Nat), .str ⟨#[c]⟩]) ∧ x.cps[i]? = some c, fun i _ => x.cps.size = i⟩
theorem turn_enumS {P : Program} {w : World} {K : PySem.W.Frag} {elts : List Expr} {kk : Nat} {tpos : Pos} (x : Str) (t : Tok) (e it : Addr) :
    Turn P w K (.Tuple elts kk tpos) (IteS x) [e, it] e (fun i h => (∃ old, IsEnum h e it ((i : Nat) : Int) old) ∧ h.IsStrIter it (strIterType x) x t i ∧ e ≠ it) where
  mem := by simp
  obj := fun i h st b hb => by
    obtain ⟨⟨old, he⟩, ⟨o, ho, hc, hd⟩, _⟩ := st
    have e' : b = e ∨ b = it := by simpa using hb
    rcases e' with z | z
    · rw [z]; exact ⟨_, he, fun v q => nomatch q⟩
    · rw [z]; exact ⟨o, ho, fun v q => by rw [hd] at q; cases q⟩
  keep := fun i h h' st k => let ⟨⟨old, he⟩, hi, hne⟩ := st; ⟨⟨old, k e (by simp) _ he⟩, (let ⟨o, q, r⟩ := hi; ⟨o, k it (by simp) o q, r⟩), hne⟩
  item := by
    intro X hP hw hK hc i pins s σ H E I hf st hg
    subst hP hw hK
    obtain ⟨⟨old, he⟩, hit, hne⟩ := st
    have hel : e < s.heap.objs.size := Heap.lt_size he
    have hil : it < s.heap.objs.size := by obtain ⟨_, q, _⟩ := hit; exact Heap.lt_size q
    have DR := Draws.text (prog := X.prog) (w := X.w) (A := X.A.in1) (I.ok.hd hc) it x t
    refine wpAny_pyNext_enum_itemD DR he hit hg hne (by simpa using hne) fun y h' tk hy ho hit' hT hsz hk => ?_
    obtain ⟨c, u, hcx, rfl⟩ := hy
    refine ⟨_, rfl, wpAny_letOwnedTupleGo_enum (s := { s with heap := h', toks := tk + 1 }) ho fun h'' he' sb => ?_⟩
    have hT2 : h''.get? s.heap.objs.size = some { cls := .type "tuple", data := .seq #[.int i tk, .str ⟨#[c]⟩ u] } := (sb.2 _ (Nat.ne_of_gt hel)).trans hT
    have new : ObjOk X.prog X.w (upd H s.heap.objs.size (.tup [.int (i : Nat), .str ⟨#[c]⟩])) h'' s.heap.objs.size (.tup [.int (i : Nat), .str ⟨#[c]⟩]) :=
      ⟨by show 2 ≤ sizeLine; decide, [.int i tk, .str ⟨#[c]⟩ u], .cons ⟨_, rfl⟩ (.cons ⟨_, rfl⟩ .nil), ⟨_, hT2, rfl, _, rfl⟩⟩
    have I1 : Inv X pins σ (upd H s.heap.objs.size (.tup [.int (i : Nat), .str ⟨#[c]⟩])) { s with heap := h'', toks := tk + 1 } :=
      I.turnedNew (ch := [e, it]) (fun b ob hb q => (sb.2 b (fun z => hb (by simp [z]))).trans (hk b ob (fun z => hb (by simp [z])) (fun z => hb (by simp [z])) q)) hf (Nat.le_refl _) new
    refine ⟨.ref s.heap.objs.size, _, I1, rfl, ⟨_, c, rfl, I.hok.fresh (Nat.le_refl _), rfl, hcx⟩, ⟨⟨.str ⟨#[c]⟩ u, ?_⟩, (let ⟨o, q, r⟩ := hit'; ⟨o, (sb.2 it (Ne.symm hne)).trans q, r⟩), hne⟩, fun b hb => ?_⟩
    · have e1 : ((i + 1 : Nat) : Int) = (i : Int) + 1 := by omega
      rw [e1]; exact he'
    · have hb' : b < s.heap.objs.size := by
        have e' : b = e ∨ b = it := by simpa using hb
        rcases e' with z | z
        · rw [z]; exact hel
        · rw [z]; exact hil
      rw [upd_ne (Nat.ne_of_lt hb')]
      exact (hf b hb).1
  done := by
    intro X hP hw hK hc i pins s σ H E I hf st hg
    subst hP hw hK
    obtain ⟨⟨old, he⟩, hit, hne⟩ := st
    obtain ⟨f0, f1, f2, f3, f4, f5⟩ := hf it (by simp)
    have DR := Draws.text (prog := X.prog) (w := X.w) (A := X.A.in1) (I.ok.hd hc) it x t
    have hg' : x.cps.size = i := hg
    subst hg'
    exact wpAny_pyNext_enum_endD DR he hit fun h' eb => ⟨rfl, I.turned (t' := s.toks) (fun b o hb q => eb b o hb q) f0 f1 f3 f4 f5⟩
  self := fun A i s Q E st h => let ⟨⟨_, he⟩, _⟩ := st; wpAny_pyIter_enum he h
def iEnumS (ta : TA) : TI := fun σ H R => ta σ H fun vs H1 => ∃ x, vs = [.str x] ∧ R (IteS x) H1
theorem pi_enumS {X : Cx} {e : Expr} {ta : TA} {p pos tpos : Pos} {elts : List Expr} {kk : Nat} (hg : Gl X "enumerate") (hm : X.mg "enumerate" = none) (ha : PA X [e] ta) (hs : starEach [e] X.env = [(false, eval e X.env)] := by rfl) :
    PI X (.Tuple elts kk tpos) (.Call (.Name "enumerate" p) [e] [] pos) (iEnumS ta) := by
  refine ⟨fun pins s σ H R I h => ?_⟩
  refine Call_ (ld_blt I hg hm boot_enumerate (PyProof.Rows.callWith_type1 (thn (ha.run pos pins s σ H _ I h) fun us s1 ⟨vs, H1, I1, r1, q1⟩ => ?_) hs rfl))
  obtain ⟨x, ex, q⟩ := q1
  subst ex
  cases r1 with
  | cons r rr =>
    cases rr
    obtain ⟨t, rfl⟩ := r
    refine call_enumerate_str fun h' he hit hsz hk => wpAny_pyIter_enum he ?_
    have I2 : Inv X pins σ H1 { s1 with heap := h' } := I1.kept (t' := s1.toks) hk
    refine ⟨s1.heap.objs.size + 1, [s1.heap.objs.size + 1, s1.heap.objs.size], _, _, H1, rfl, I2, turn_enumS x t (s1.heap.objs.size + 1) s1.heap.objs.size, ⟨⟨.none, he⟩, hit, Nat.succ_ne_self _⟩, fun b hb => ?_, q⟩
    have e' : b = s1.heap.objs.size + 1 ∨ b = s1.heap.objs.size := by simpa using hb
    have hle : s1.heap.objs.size ≤ b := by
      rcases e' with z | z
      · rw [z]; exact Nat.le_add_right _ _
      · rw [z]; exact Nat.le_refl _
    exact I1.fpOk hle (I1.hok.fresh hle)
end L2
namespace OI
open PySem L2
section
variable {X : Cx} {tg e : Expr}
theorem PI.mono {t t' : TI} (h : PI X tg e t) (hi : ∀ σ H Q, t' σ H Q → t σ H Q) : PI X tg e t' := ⟨fun pins s σ H Q I q => h.run pins s σ H Q I (hi σ H Q q)⟩
theorem PI.or {t t' : TI} (h : PI X tg e t) (h' : PI X tg e t') : PI X tg e (fun σ H R => t σ H R ∨ t' σ H R) := ⟨fun pins s σ H Q I q => q.elim (h.run pins s σ H Q I) (h'.run pins s σ H Q I)⟩
end
/-- an iterator that gives the data xs; its: what it holds -/
structure ItOk (K : PySem.W.Frag) (f : Frm) (J : It) (xs : List D) (its : Tm) : Prop where
  go : ∀ (i : Nat) H σ env ts, i < xs.length → Sta K f H σ env (its ++ ts) → J.go i H
  stop : ∀ H σ env ts, Sta K f H σ env (its ++ ts) → J.stop xs.length H
  yld : ∀ (i : Nat) H σ env ts x H', i < xs.length → Sta K f H σ env (its ++ ts) → J.yld i H x H' → ∃ d, xs[i]? = some d ∧ Sta K f H' σ env ((x, d) :: (its ++ ts))
def tI (K : PySem.W.Frag) (f : Frm) (gcs : List D) (cl : Cl) (c : CE) : TI := fun σ H R => ∃ env ts, Sta K f H σ env ts ∧ ∃ xs env', evI gcs cl c env = .ok xs env' ∧ ∀ J H' its, ItOk K f J xs its → Sta K f H' σ env' (its ++ ts) → R J H'
section
variable {K : PySem.W.Frag} {f : Frm} {M H : Hp} {σ : St} {env : En} {ts : Tm} {Fe Ft : List Addr} {gcs : List D} {cl : Cl}
theorem StaM.lit {d : D} {v : V} (s : StaM K f M H σ env ts Fe Ft) (h : Rep K M H d v []) : Sta K f H σ env ((v, d) :: ts) :=
  (s.re_of s.re (ts' := (v, d) :: ts) (Ft' := Ft) ⟨[], Ft, rfl, h, s.rt⟩ fun a => Nat.le_refl _).sta
theorem it_list {a : Addr} {xs : List D} (ho : ownL xs = false) : ItOk K f (Itl K a) xs [(.ref a, .lst false xs)] := by
  have key : ∀ {H σ env ts}, Sta K f H σ env ([(.ref a, .lst false xs)] ++ ts) → ∃ M Fe Ft vs, StaM K f M H σ env ([(.ref a, .lst false xs)] ++ ts) Fe Ft ∧ SqL K H a vs ∧ Reps K M H xs vs [] := by
    intro H σ env ts ⟨M, Fe, Ft, s⟩
    obtain ⟨F, h⟩ := s.temp (p := (.ref a, .lst false xs)) (by simp)
    unfold Rep at h
    obtain ⟨b, vs, e1, e2, h1, h2⟩ := h
    cases e1
    exact ⟨M, Fe, Ft, vs, s, sqL_up s.mh h1, h2⟩
  refine ⟨fun i H σ env ts hi s => ?_, fun H σ env ts s => ?_, fun i H σ env ts x H' hi s y => ?_⟩
  · obtain ⟨M, Fe, Ft, vs, s, h1, h2⟩ := key s
    have hl := h2.length
    exact ⟨vs, vs[i]'(by omega), h1, by simp⟩
  · obtain ⟨M, Fe, Ft, vs, s, h1, h2⟩ := key s
    exact ⟨vs, h1, Nat.le_of_eq h2.length⟩
  · obtain ⟨M, Fe, Ft, vs, s, h1, h2⟩ := key s
    obtain ⟨e, y⟩ := y
    subst e
    obtain ⟨w, F', g1, g2, _⟩ := h2.get (List.getElem?_eq_getElem hi)
    have e := (y vs h1).symm.trans g1
    cases e
    have z : own xs[i] = false := by
      have : ∀ {l : List D} {d : D}, ownL l = false → d ∈ l → own d = false := by
        intro l
        induction l with
        | nil => intro d _ m; cases m
        | cons c l ih =>
          intro d h m
          unfold ownL at h
          obtain ⟨o1, o2⟩ := Bool.or_eq_false_iff.mp h
          rcases List.mem_cons.mp m with q | q
          · rw [q]; exact o1
          · exact ih o2 q
      exact this ho (List.getElem_mem hi)
    have z2 := g2.bare z
    subst z2
    exact ⟨xs[i], List.getElem?_eq_getElem hi, s.lit g2⟩
theorem ownL_mem : ∀ {l : List D} {d : D}, ownL l = false → d ∈ l → own d = false
  | [], d, _, m => by cases m
  | c :: l, d, h, m => by
    unfold ownL at h
    obtain ⟨o1, o2⟩ := Bool.or_eq_false_iff.mp h
    rcases List.mem_cons.mp m with q | q
    · rw [q]; exact o1
    · exact ownL_mem o2 q
theorem it_tup {a : Addr} {xs : List D} (ho : ownL xs = false) : ItOk K f (Itt K a) xs [(.ref a, .tup xs)] := by
  have key : ∀ {H σ env ts}, Sta K f H σ env ([(.ref a, .tup xs)] ++ ts) → ∃ M Fe Ft vs, StaM K f M H σ env ([(.ref a, .tup xs)] ++ ts) Fe Ft ∧ SqT K H a vs ∧ Reps K M H xs vs [] := by
    intro H σ env ts ⟨M, Fe, Ft, s⟩
    obtain ⟨F, h⟩ := s.temp (p := (.ref a, .tup xs)) (by simp)
    unfold Rep at h
    obtain ⟨b, vs, e1, h1, h2⟩ := h
    cases e1
    have z := h2.bare ho
    subst z
    exact ⟨M, Fe, Ft, vs, s, sqT_mono s.mh h1, h2⟩
  refine ⟨fun i H σ env ts hi s => ?_, fun H σ env ts s => ?_, fun i H σ env ts x H' hi s y => ?_⟩
  · obtain ⟨M, Fe, Ft, vs, s, h1, h2⟩ := key s
    have hl := h2.length
    exact ⟨vs, vs[i]'(by omega), h1, by simp⟩
  · obtain ⟨M, Fe, Ft, vs, s, h1, h2⟩ := key s
    exact ⟨vs, h1, Nat.le_of_eq h2.length⟩
  · obtain ⟨M, Fe, Ft, vs, s, h1, h2⟩ := key s
    obtain ⟨e, y⟩ := y
    subst e
    obtain ⟨w, F', g1, g2, _⟩ := h2.get (List.getElem?_eq_getElem hi)
    have e := (y vs h1).symm.trans g1
    cases e
    have z2 := g2.bare (ownL_mem ho (List.getElem_mem hi))
    subst z2
    exact ⟨xs[i], List.getElem?_eq_getElem hi, s.lit g2⟩
theorem one_line : 1 ≤ sizeLine := by rw [sizeLine_eq]; decide
theorem it_str {s : List Nat} : ItOk K f (Its ⟨s.toArray⟩) (s.map fun c => .str [c]) [] := by
  refine ⟨fun i H σ env ts hi _ => ?_, fun H σ env ts _ => ?_, fun i H σ env ts x H' hi st y => ?_⟩
  · show i < s.toArray.size
    simpa using hi
  · show s.toArray.size ≤ _
    simp
  · obtain ⟨e, c, hc, e2⟩ := y
    subst e e2
    have hc' : s[i]? = some c := by simpa using hc
    refine ⟨.str [c], by simp [hc'], ?_⟩
    exact st.lit fun M H => mkS [c] one_line
theorem it_range {lo : Int} {n : Nat} : ItOk K f (Itr lo n) ((List.range n).map fun (k : Nat) => D.int (lo + k)) [] := by
  refine ⟨fun i H σ env ts hi _ => ?_, fun H σ env ts _ => ?_, fun i H σ env ts x H' hi st y => ?_⟩
  · show i < n
    simpa using hi
  · show n ≤ _
    simp
  · obtain ⟨e, e2⟩ := y
    subst e e2
    have hi' : i < n := by simpa using hi
    exact ⟨.int (lo + i), by simp [List.getElem?_range hi'], st.lit fun M H => mkI _⟩
theorem mapIdx_get {xs : List D} {i : Nat} {d : D} (h : xs[i]? = some d) : (xs.mapIdx fun k x => D.tup [.int k, x])[i]? = some (.tup [.int i, d]) := by simp [h]
theorem it_enum {a : Addr} {xs : List D} (ho : ownL xs = false) : ItOk K f (Ite K a) (xs.mapIdx fun k x => D.tup [.int k, x]) [(.ref a, .lst false xs)] := by
  have B := it_list (K := K) (f := f) (a := a) ho
  refine ⟨fun i H σ env ts hi s => ?_, fun H σ env ts s => ?_, fun i H σ env ts x H' hi s y => ?_⟩
  · exact B.go i H σ env ts (by simpa using hi) s
  · rw [List.length_mapIdx]; exact B.stop H σ env ts s
  · have hi' : i < xs.length := by simpa using hi
    obtain ⟨T, v, e1, hT, e2, y⟩ := y
    subst e1 e2
    obtain ⟨d, h1, h2⟩ := B.yld i H σ env ts v H hi' s ⟨rfl, y⟩
    refine ⟨_, mapIdx_get h1, ?_⟩
    obtain ⟨M, Fe, Ft, sM⟩ := h2
    obtain ⟨F, g⟩ := sM.temp (p := (v, d)) (by simp)
    have z := g.bare (ownL_mem ho (List.mem_of_getElem? h1))
    subst z
    obtain ⟨Ft', s3⟩ := sM.tail
    exact s3.newT hT (Reps.cons (mkI _) (Reps.one g))
theorem it_enumS {s : List Nat} : ItOk K f (IteS ⟨s.toArray⟩) ((s.map fun c => D.str [c]).mapIdx fun k x => D.tup [.int k, x]) [] := by
  refine ⟨fun i H σ env ts hi _ => ?_, fun H σ env ts _ => ?_, fun i H σ env ts x H' hi st y => ?_⟩
  · show i < s.toArray.size
    simpa using hi
  · show s.toArray.size = _
    simp
  · obtain ⟨T, c, e1, hT, e2, hc⟩ := y
    subst e1 e2
    have hc' : s[i]? = some c := by simpa using hc
    refine ⟨_, mapIdx_get (d := .str [c]) (by simp [hc']), ?_⟩
    obtain ⟨M, Fe, Ft, sM⟩ := st
    exact sM.newT hT (Reps.cons (mkI _) (Reps.one (mkS [c] one_line)))

end
section
variable {gcs : List D} {cl : Cl} {n : Nat}
theorem frz_fz {x : D} (h : own x = false) : frz x = x ∨ True := .inr trivial
/-- an operand, frozen, as a temporary -/
theorem Sta.fr {K : PySem.W.Frag} {f : Frm} {σ : St} {H : Hp} {env : En} {ts : Tm} {v : V} {x : D} (s : Sta K f H σ env ((v, x) :: ts)) : Sta K f H σ env ((v, frz x) :: ts) := by
  obtain ⟨M, Fe, Ft, s⟩ := s
  obtain ⟨M', Ft', s', _⟩ := s.freeze
  exact s'.sta
theorem items_frz {x : D} {xs : List D} (h : items (frz x) = some xs) : (frz x = .lst false xs ∧ ownL xs = false) ∨ (frz x = .tup xs ∧ ownL xs = false) ∨ ∃ s, frz x = .str s ∧ xs = s.map fun c => D.str [c] := by
  have ho := own_frz x
  generalize frz x = y at h ho
  cases y with
  | lst o ys =>
    simp only [items] at h
    split at h
    · cases h
    · rename_i q
      cases h
      unfold own at ho
      subst ho
      exact .inl ⟨rfl, by simpa using q⟩
  | tup ys =>
    simp only [items] at h
    split at h
    · cases h
    · rename_i q
      cases h
      exact .inr (.inl ⟨rfl, by simpa using q⟩)
  | str s => cases h; exact .inr (.inr ⟨s, rfl, rfl⟩)
  | non => cases h
  | bl _ => cases h
  | int _ => cases h
variable (gcs cl n) in
def SndI (c : CE) : Prop := ∀ (k : Ck) (X : Cx) (f : Frm) (tg e : Expr), XE k gcs cl n X → okI k tg c e = true → PI X tg e (tI X.K f gcs cl c)
theorem s_itv (a : CE) (iha : SndE gcs cl n a) : SndI gcs cl n (.itv a) := by
    intro k X f tg e ok h
    replace h : okItv (okE k a) e = true := h
    unfold okItv at h
    rw [Bool.and_eq_true] at h
    have pe := (iha k X f e ok h.2).1
    refine PI.mono (PI.or (pi_list pe) (PI.or (pi_tup pe) (pi_str pe))) fun σ H R q => ?_
    obtain ⟨env, ts, s, xs, env', hev, q⟩ := q
    simp only [evI] at hev
    obtain ⟨r, e1, h1, hev⟩ := bind_ok hev
    cases r with
    | pk i => cases hev
    | d y =>
      dsimp only at hev
      split at hev
      · rename_i ys hy
        cases hev
        · rcases items_frz hy with ⟨e2, ho⟩ | ⟨e2, ho⟩ | ⟨z, e2, e3⟩
          · refine .inl ⟨env, ts, s, _, _, h1, fun v H' _ s1 => ?_⟩
            have s2 : Sta X.K f H' σ _ ((v, frz y) :: ts) := Sta.fr s1
            rw [e2] at s2
            obtain ⟨M, Fe, Ft, sM⟩ := id s2
            obtain ⟨F, g⟩ := sM.temp (p := (v, .lst false xs)) (by simp)
            obtain ⟨a, vs, F', e4, hs, _⟩ := repL sM.mh g
            subst e4
            exact ⟨a, rfl, ⟨vs, hs⟩, q _ _ _ (it_list ho) s2⟩
          · refine .inr (.inl ⟨env, ts, s, _, _, h1, fun v H' _ s1 => ?_⟩)
            have s2 : Sta X.K f H' σ _ ((v, frz y) :: ts) := Sta.fr s1
            rw [e2] at s2
            obtain ⟨M, Fe, Ft, sM⟩ := id s2
            obtain ⟨F, g⟩ := sM.temp (p := (v, .tup xs)) (by simp)
            obtain ⟨a, vs, F', e4, hs, _⟩ := repT sM.mh g
            subst e4
            exact ⟨a, rfl, ⟨vs, hs⟩, q _ _ _ (it_tup ho) s2⟩
          · refine .inr (.inr ⟨env, ts, s, _, _, h1, fun v H' _ s1 => ?_⟩)
            have s2 : Sta X.K f H' σ _ ((v, frz y) :: ts) := Sta.fr s1
            rw [e2] at s2
            obtain ⟨M, Fe, Ft, sM⟩ := id s2
            obtain ⟨F, g⟩ := sM.temp (p := (v, .str z)) (by simp)
            subst e3
            exact ⟨_, (repS g).1, q _ _ [] it_str s2.tail⟩
      · cases hev
theorem s_rng1 (a : CE) (iha : SndE gcs cl n a) : SndI gcs cl n (.rng1 a) := by
    intro k X f tg e ok h
    replace h : okRng1 k (okE k a) e = true := h
    unfold okRng1 at h
    split at h
    · rename_i x p0 e pos
      simp only [Bool.and_eq_true] at h
      have q := of_decide_eq_true h.1; subst q
      have pe := (iha k X f e ok h.2.2.2).1
      refine PI.mono (pi_range1 (glB_ok (by rw [ok.hsc]; exact h.2.1)) (ok.blt _ (by decide +kernel)) (pa_cons pe pa_nil (star_of h.2.2.1)) (star_of h.2.2.1)) fun σ H R q => ?_
      obtain ⟨env, ts, s, xs, env', hev, q⟩ := q
      simp only [evI] at hev
      obtain ⟨r, e1, h1, hev⟩ := bind_ok hev
      split at hev
      · rename_i m hx
        split at hev
        · rename_i hb
          cases hev
          refine ⟨env, ts, s, r, _, h1, fun v H' pk s1 => ?_⟩
          obtain ⟨M, Fe, Ft, sM⟩ := s1
          obtain ⟨F, g⟩ := sM.view (v := v) (r := r) (fun p m => by simp [m]) pk hx
          obtain ⟨Ft', s4⟩ := sM.drops
          refine ⟨m, by rw [repI g], by omega, by omega, q (Itr 0 m.toNat) H' [] ?_ s4.sta⟩
          have e : (fun (k : Nat) => D.int k) = fun (k : Nat) => D.int (0 + k) := by funext k; rw [Int.zero_add]
          rw [e]
          exact it_range
        · cases hev
      · cases hev
    · cases h
theorem s_rng2 (a b : CE) (iha : SndE gcs cl n a) (ihb : SndE gcs cl n b) : SndI gcs cl n (.rng2 a b) := by
    intro k X f tg e ok h
    replace h : okRng2 k (okE k a) (okE k b) e = true := h
    unfold okRng2 at h
    split at h
    · rename_i x p0 e e2 pos
      simp only [Bool.and_eq_true] at h
      have q := of_decide_eq_true h.1; subst q
      have pe := (iha k X f e ok h.2.2.2.2.1).1
      have pe2 := (ihb k X f e2 ok h.2.2.2.2.2).1
      refine PI.mono (pi_range2 (glB_ok (by rw [ok.hsc]; exact h.2.1)) (ok.blt _ (by decide +kernel)) (pa_cons pe (pa_cons pe2 pa_nil (star_of h.2.2.2.1)) (star_of h.2.2.1)) (by rw [star_of h.2.2.1, star_of h.2.2.2.1]; rfl) (star_of h.2.2.2.1)) fun σ H R q => ?_
      obtain ⟨env, ts, s, xs, env', hev, q⟩ := q
      simp only [evI] at hev
      obtain ⟨r, e1, h1, hev⟩ := bind_ok hev
      obtain ⟨r2, e2, h2, hev⟩ := bind_ok hev
      split at hev
      · rename_i m m2 hx hx2
        split at hev
        · rename_i hb
          cases hev
          refine ⟨env, ts, s, r, _, h1, fun v H' pk s1 => ⟨e1, _, s1, r2, _, h2, fun u H2 pk2 s2 => ?_⟩⟩
          obtain ⟨M, Fe, Ft, sM⟩ := s2
          obtain ⟨F, g⟩ := sM.view (v := v) (r := r) (fun p m => by simp [m]) pk hx
          obtain ⟨G, g2⟩ := sM.view (v := u) (r := r2) (fun p m => by simp [m]) pk2 hx2
          obtain ⟨Ft', s4⟩ := sM.drop2
          refine ⟨m, m2, by rw [repI g, repI g2], ⟨by omega, by omega, by omega, by omega⟩, q (Itr m (m2 - m).toNat) H2 [] it_range s4.sta⟩
        · cases hev
      · cases hev
    · cases h
theorem s_enu (a : CE) (iha : SndE gcs cl n a) : SndI gcs cl n (.enu a) := by
    intro k X f tg e ok h
    replace h : okEnu k tg (okE k a) e = true := h
    unfold okEnu at h
    split at h
    · rename_i x p0 e pos
      simp only [Bool.and_eq_true] at h
      have q := of_decide_eq_true h.1; subst q
      have pe := (iha k X f e ok h.2.2.2.1).1
      cases tg with
      | Tuple elts kk tpos =>
        have hg : Gl X "enumerate" := glB_ok (by rw [ok.hsc]; exact h.2.1)
        have hm : X.mg "enumerate" = none := ok.blt _ (by decide +kernel)
        have pa := pa_cons pe pa_nil (star_of (env := X.env) h.2.2.1)
        refine PI.mono (PI.or (pi_enum hg hm pa (star_of h.2.2.1)) (pi_enumS hg hm pa (star_of h.2.2.1))) fun σ H R q => ?_
        obtain ⟨env, ts, s, xs, env', hev, q⟩ := q
        simp only [evI] at hev
        obtain ⟨r, e1, h1, hev⟩ := bind_ok hev
        cases r with
        | pk i => cases hev
        | d y =>
          dsimp only at hev
          split at hev
          · cases hev
          · rename_i _ _ ys hy nt
            cases hev
            · rcases items_frz hy with ⟨e2, ho⟩ | ⟨e2, ho⟩ | ⟨z, e2, e3⟩
              · refine .inl ⟨env, ts, s, _, _, h1, fun v H' _ s1 => ?_⟩
                have s2 : Sta X.K f H' σ _ ((v, frz y) :: ts) := Sta.fr s1
                rw [e2] at s2
                obtain ⟨M, Fe, Ft, sM⟩ := id s2
                obtain ⟨F, g⟩ := sM.temp (p := (v, .lst false ys)) (by simp)
                obtain ⟨a, vs, F', e4, hs, _⟩ := repL sM.mh g
                subst e4
                exact ⟨a, vs, rfl, hs, q _ _ _ (it_enum ho) s2⟩
              · exact absurd e2 (nt _)
              · refine .inr ⟨env, ts, s, _, _, h1, fun v H' _ s1 => ?_⟩
                have s2 : Sta X.K f H' σ _ ((v, frz y) :: ts) := Sta.fr s1
                rw [e2] at s2
                obtain ⟨M, Fe, Ft, sM⟩ := id s2
                obtain ⟨F, g⟩ := sM.temp (p := (v, .str z)) (by simp)
                subst e3
                exact ⟨_, by rw [show v = _ from (repS g).1], q _ _ [] it_enumS s2.tail⟩
          · cases hev
      | _ => cases h.2.2.2.2
    · cases h
end
end OI

/-! list comprehensions -/
namespace OI
open PySem L2
section
variable {X : Cx}
theorem PG.mono {tg : Expr} {t t' : TG} (h : PG X tg t) (hi : ∀ v σ H Q, t' v σ H Q → t v σ H Q) : PG X tg t' := ⟨fun pins s σ H v u Q I r q => h.run pins s σ H v u Q I r (hi v σ H Q q)⟩
end
theorem fold_no {e : Expr} {env : Env} (h : plainB e = true) (x : Value) : foldedSetIterable e env x = pure x := by
  cases e <;> first | rfl | cases h
section
variable {K : PySem.W.Frag} {f : Frm} {M H : Hp} {σ σ' : St} {env : En} {ts : Tm} {Fe Ft : List Addr} {gcs : List D} {cl : Cl}
theorem set_big {α : Type} {l : List α} {i : Nat} {x : α} (h : l.length ≤ i) : l.set i x = l := List.set_eq_of_length_le h
theorem Sta.put {v : V} {d : D} (s : Sta K f H σ env ((v, d) :: ts)) (i : Nat) : Sta K f H (σ.set i (some v)) (setS env i d) ts := by
  obtain ⟨M, Fe, Ft, s⟩ := s
  by_cases hi : i < env.length
  · exact s.assign hi
  · have hl := s.re.length
    unfold setS
    rw [set_big (by omega), set_big (by omega)]
    exact (s.tail).elim fun _ s => s.sta
/-- several at once -/
def gsOf : St → List Nat → List V → St
  | σ, i :: is, v :: vs => gsOf (σ.set i (some v)) is vs
  | σ, _, _ => σ
theorem Sta.puts : ∀ {is : List Nat} {vs : List V} {ds : List D} {σ : St} {env : En}, Sta K f H σ env (vs.zip ds ++ ts) → is.length = ds.length → vs.length = ds.length → Sta K f H (gsOf σ is vs) (setsS env is ds) ts
  | [], [], [], σ, env, s, _, _ => s
  | i :: is, v :: vs, d :: ds, σ, env, s, h1, h2 => by
    have s1 : Sta K f H (σ.set i (some v)) (setS env i d) (vs.zip ds ++ ts) := Sta.put (ts := vs.zip ds ++ ts) s i
    exact Sta.puts (is := is) (vs := vs) (ds := ds) s1 (by simpa using h1) (by simpa using h2)
  | [], _ :: _, [], _, _, _, _, h2 => by simp at h2
  | [], _, _ :: _, _, _, _, h1, _ => by simp at h1
  | _ :: _, _, [], _, _, _, h1, _ => by simp at h1
  | _ :: _, [], _ :: _, _, _, _, _, h2 => by simp at h2
/-- a list grows -/
theorem StaM.append {v : V} {x : D} {xs : List D} {i : Nat} (s : StaM K f M H σ env ((v, x) :: ts) Fe Ft) (h : env[i]? = some (some (.lst true xs))) : ∃ a vs, σ[i]? = some (some (.ref a)) ∧ H a = some (.lst vs) ∧ vs.length = xs.length ∧
    Sta K f (upd H a (.lst (vs ++ [v]))) σ (setS env i (.lst true (xs ++ [x]))) ts := by
  obtain ⟨u, F1, F2, g1, g2, g3, g4⟩ := s.re.out h
  obtain ⟨T1, T2, e, t1, t2⟩ := s.rt
  unfold Rep at g2
  obtain ⟨a, vs, F', e1, e2, e3, e4⟩ := g2
  subst e1 e2 e
  have one := s.one
  have na : ∀ b, b ∈ F' ∨ b ∈ F2 ∨ b ∈ T1 ∨ b ∈ T2 → b ≠ a := fun b m z => by
    subst z
    have q := one b
    rw [g4 b, List.count_cons_self, List.count_append] at q
    rcases m with m | m | m | m
    all_goals (have := count_mem m; omega)
  refine ⟨a, vs, g1, e3, e4.length, ?_⟩
  have ni : ∀ {F : List Addr}, (∀ b ∈ F, b ≠ a) → ∀ b ∈ F, upd H a (.lst (vs ++ [v])) b = H b := fun h b m => upd_ne (h b m)
  have nM : M a = none := s.fm a (.inl (mem_of_count (by rw [g4 a, List.count_cons_self]; omega)))
  have r1 : Rep K M (upd H a (.lst (vs ++ [v]))) (.lst true (xs ++ [x])) (.ref a) (a :: (F' ++ T1)) := by
    unfold Rep
    exact ⟨a, vs ++ [v], F' ++ T1, rfl, rfl, upd_same, (e4.mono (fun _ _ e => e) (ni fun b m => na b (.inl m))).append (Reps.one (t1.mono (fun _ _ e => e) (ni fun b m => na b (.inr (.inr (.inl m))))))⟩
  obtain ⟨G, k1, k2⟩ := REnv.back r1 (g3.mono (fun _ _ e => e) (ni fun b m => na b (.inr (.inl m)))) g1
  have cnt : ∀ c, G.count c + T2.count c = Fe.count c + (T1 ++ T2).count c := fun c => by
    rw [k2 c, g4 c, List.count_append]
    simp only [List.count_cons, List.count_append]
    omega
  have mem : ∀ c, (c ∈ G ∨ c ∈ T2) → c ∈ Fe ∨ c ∈ T1 ++ T2 := fun c m => by
    have q : 0 < G.count c + T2.count c := by
      rcases m with m | m
      · have := count_mem m; omega
      · have := count_mem m; omega
    rw [cnt c] at q
    by_cases z : 0 < Fe.count c
    · exact .inl (mem_of_count z)
    · exact .inr (mem_of_count (by omega))
  refine ⟨M, G, T2, fun b o e => ?_, s.mm, s.mo, fun b o e nb => ?_, k1, t2.mono (fun _ _ e => e) (ni fun b m => na b (.inr (.inr (.inr m)))), fun c => ?_, fun c m => s.fm c (mem c m), fun c m => s.fb c (mem c m)⟩
  · rw [upd_ne (fun z => by rw [z, nM] at e; cases e)]; exact s.mh b o e
  · have ha : a ∈ f.B ∨ f.H a = none := s.fb a (.inl (mem_of_count (by rw [g4 a, List.count_cons_self]; omega)))
    rw [upd_ne (fun z => by
      subst z
      rcases ha with q | q
      · exact nb q
      · rw [q] at e; cases e)]
    exact s.fr b o e nb
  · rw [cnt c]; exact one c


theorem REnv.agree : ∀ {e : En} {σ σ' : St} {F : List Addr}, σ'.length = σ.length → (∀ (i : Nat) d, e[i]? = some (some d) → σ'[i]? = σ[i]?) → REnv K M H e σ F → REnv K M H e σ' F
  | [], σ, σ', F, hl, _, h => by
    obtain ⟨h1, h2⟩ := h
    subst h1
    exact ⟨List.eq_nil_of_length_eq_zero hl, h2⟩
  | none :: es, σ, σ', F, hl, ha, h => by
    obtain ⟨x, r, e1, h2⟩ := h
    subst e1
    cases σ' with
    | nil => simp at hl
    | cons y r' => exact ⟨y, r', rfl, REnv.agree (by simpa using hl) (fun i d q => by simpa using ha (i + 1) d (by simpa using q)) h2⟩
  | some d :: es, σ, σ', F, hl, ha, h => by
    obtain ⟨v, r, F1, F2, e1, e2, h1, h2⟩ := h
    subst e1
    cases σ' with
    | nil => simp at hl
    | cons y r' =>
      have q : y = some v := by simpa using ha 0 d rfl
      subst q
      exact ⟨v, r', F1, F2, rfl, e2, h1, REnv.agree (by simpa using hl) (fun i d q => by simpa using ha (i + 1) d (by simpa using q)) h2⟩
theorem Sta.slots (s : Sta K f H σ env ts) (hl : σ'.length = σ.length) (ha : ∀ (i : Nat) d, env[i]? = some (some d) → σ'[i]? = σ[i]?) : Sta K f H σ' env ts := by
  obtain ⟨M, Fe, Ft, s⟩ := s
  exact (s.re_of (s.re.agree hl ha) s.rt fun a => Nat.le_refl _).sta
theorem wipeE_some {i : Nat} {x : D} : ∀ {vs : List Nat}, (wipeE env vs)[i]? = some (some x) → env[i]? = some (some x) ∧ i ∉ vs
  | [], h => ⟨h, by simp⟩
  | v :: vs, h => by
    unfold wipeE at h
    by_cases hi : v = i
    · subst hi
      by_cases hv : v < (wipeE env vs).length
      · rw [List.getElem?_set_self hv] at h; cases h
      · rw [List.getElem?_eq_none (by simpa using hv)] at h; cases h
    · rw [List.getElem?_set_ne hi] at h
      obtain ⟨h1, h2⟩ := wipeE_some h
      exact ⟨h1, by simp only [List.mem_cons, not_or]; exact ⟨fun e => hi e.symm, h2⟩⟩
theorem wipe_get {i : Nat} : ∀ {vs : List Nat}, i ∉ vs → (wipe σ vs)[i]? = σ[i]?
  | [], _ => rfl
  | v :: vs, h => by
    unfold wipe
    rw [List.getElem?_set_ne (by intro e; exact h (by simp [e]))]
    exact wipe_get (by intro m; exact h (by simp [m]))
theorem wipe_in {i : Nat} : ∀ {vs : List Nat}, i ∈ vs → i < σ.length → (wipe σ vs)[i]? = some none
  | [], h, _ => by cases h
  | v :: vs, h, hl => by
    unfold wipe
    by_cases e : v = i
    · subst e
      rw [List.getElem?_set_self (by rw [wipe_length]; exact hl)]
    · rw [List.getElem?_set_ne e]
      rcases List.mem_cons.mp h with q | q
      · exact absurd q.symm e
      · exact wipe_in q hl
theorem wipe_eq {vs : List Nat} (hl : σ'.length = σ.length) (h : ∀ (i : Nat), i ∉ vs → σ'[i]? = σ[i]?) : wipe σ' vs = wipe σ vs := by
  apply List.ext_getElem?
  intro i
  by_cases m : i ∈ vs
  · by_cases q : i < σ.length
    · rw [wipe_in m q, wipe_in m (by omega)]
    · rw [List.getElem?_eq_none (by rw [wipe_length]; omega), List.getElem?_eq_none (by rw [wipe_length]; omega)]
  · rw [wipe_get m, wipe_get m, h i m]
theorem gsOf_len : ∀ {is : List Nat} {vs : List V} {σ : St}, (gsOf σ is vs).length = σ.length
  | [], _, _ => by unfold gsOf; rfl
  | i :: is, [], _ => by unfold gsOf; rfl
  | i :: is, v :: vs, σ => by unfold gsOf; rw [gsOf_len, List.length_set]
theorem gsOf_get {j : Nat} : ∀ {is : List Nat} {vs : List V} {σ : St}, j ∉ is → (gsOf σ is vs)[j]? = σ[j]?
  | [], _, _, _ => by unfold gsOf; rfl
  | i :: is, [], _, _ => by unfold gsOf; rfl
  | i :: is, v :: vs, σ, h => by
    unfold gsOf
    rw [gsOf_get (by intro m; exact h (by simp [m])), List.getElem?_set_ne (by intro e; exact h (by simp [e]))]
theorem Sta.wiped {is : List Nat} (s : Sta K f H σ env ts) : Sta K f H (wipe σ is) (wipeE env is) ts := by
  have key : ∀ (is : List Nat), Sta K f H σ (wipeE env is) ts := by
    intro is
    induction is with
    | nil => exact s
    | cons i is ih =>
      obtain ⟨M, Fe, Ft, sM⟩ := ih
      obtain ⟨F2, g1, g2⟩ := sM.re.drop i
      exact (sM.re_of (env' := wipeE env (i :: is)) g1 sM.rt fun a => by have := g2 a; omega).sta
  exact (key is).slots (wipe_length _ _) fun i d q => wipe_get (wipeE_some q).2
/-- a temporary as a slot ahead of all -/
theorem Sta.slotIn {v : V} {d : D} (s : Sta K f H σ env ((v, d) :: ts)) : Sta K f H (some v :: σ) (some d :: env) ts := by
  obtain ⟨M, Fe, Ft, s⟩ := s
  obtain ⟨F1, F2, e, h1, h2⟩ := s.rt
  exact (s.re_of (env' := some d :: env) (σ' := some v :: σ) (Fe' := F1 ++ Fe) ⟨v, σ, F1, Fe, rfl, rfl, h1, s.re⟩ h2 fun a => by rw [e, List.count_append, List.count_append]; omega).sta
theorem Sta.slotOut {v : V} {d : D} (s : Sta K f H (some v :: σ) (some d :: env) ts) : Sta K f H σ env ((v, d) :: ts) := by
  obtain ⟨M, Fe, Ft, s⟩ := s
  obtain ⟨v', r, F1, F2, e1, e2, h1, h2⟩ := s.re
  cases e1
  exact (s.re_of h2 (ts' := (v, d) :: ts) (Ft' := F1 ++ Ft) ⟨F1, Ft, rfl, h1, s.rt⟩ fun a => by rw [e2, List.count_append, List.count_append]; omega).sta
/-- a list that is a temporary grows -/
theorem Sta.appendT {v : V} {x : D} {xs : List D} {a : Addr} (s : Sta K f H σ env ((v, x) :: (.ref a, .lst true xs) :: ts)) : ∃ vs, H a = some (.lst vs) ∧ vs.length = xs.length ∧ Sta K f (upd H a (.lst (vs ++ [v]))) σ env ((.ref a, .lst true (xs ++ [x])) :: ts) := by
  have s1 := (s.perm (List.Perm.swap ..)).slotIn
  obtain ⟨M, Fe, Ft, sM⟩ := s1
  obtain ⟨b, vs, k1, k2, k3, k4⟩ := StaM.append (i := 0) (xs := xs) sM rfl
  have e : b = a := by simpa using k1.symm
  subst e
  exact ⟨vs, k2, k3, Sta.slotOut k4⟩
end
section
variable {gcs : List D} {cl : Cl} {n : Nat}
def gTs (is : List Nat) : TGs := fun vs σ H Q => vs.length = is.length ∧ Q (gsOf σ is vs) H
/-- the names of a tuple's target -/
def NOk (X : Cx) : List Nat → List Expr → Prop
  | [], [] => True
  | i :: is, e :: es => (∃ x p, e = .Name x p ∧ X.N[i]? = some x ∧ Loc X.env.scope x ∧ (X.fn x = true ∨ X.env.scope.names.lookup x = some .local)) ∧ NOk X is es
  | _, _ => False
theorem pgs_nok {X : Cx} (nd : X.N.Nodup) : ∀ {is : List Nat} {es : List Expr}, NOk X is es → PGs X es (gTs is) ∧ (assignEach es X.env).length = is.length ∧ (assignEach es X.env).findIdx? (·.1) = none
  | [], [], _ => ⟨⟨fun pins s σ H vs us Q I r q => pgs_nil.run pins s σ H vs us Q I r ⟨by simpa using q.1, by obtain ⟨q1, q2⟩ := q; cases vs with | nil => exact q2 | cons _ _ => simp at q1⟩⟩, rfl, rfl⟩
  | i :: is, e :: es, h => by
    obtain ⟨⟨x, p, e1, hN, hL, hf⟩, h2⟩ := h
    subst e1
    obtain ⟨g1, g2, g3⟩ := pgs_nok nd h2
    refine ⟨⟨fun pins s σ H vs us Q I r q => (pgs_cons (pg_name (i := i) nd hN hL hf) g1).run pins s σ H vs us Q I r ?_⟩, ?_, ?_⟩
    · obtain ⟨q1, q2⟩ := q
      cases vs with
      | nil => simp at q1
      | cons v vs => exact ⟨v, vs, rfl, by simpa using q1, q2⟩
    · show (assignEach es X.env).length + 1 = is.length + 1
      rw [g2]
    · show List.findIdx? _ ((false, _) :: assignEach es X.env) = none
      rw [List.findIdx?_cons, g3]; rfl
  | [], _ :: _, h => h.elim
  | _ :: _, [], h => h.elim
/-- a tuple's items as temporaries -/
theorem Sta.items {K : PySem.W.Frag} {f : Frm} {H : Hp} {σ : St} {e : En} {ts : Tm} {x : V} {ds : List D} (s2 : Sta K f H σ e ((x, .tup ds) :: ts)) : ∃ a vs, x = .ref a ∧ SqT K H a vs ∧ vs.length = ds.length ∧ Sta K f H σ e (vs.zip ds ++ ts) := by
  obtain ⟨M, Fe, Ft, sM⟩ := s2
  obtain ⟨F1, F2, ef, r1, r2⟩ := sM.rt
  have r1' : Rep K M H (.tup ds) x F1 := r1
  unfold Rep at r1'
  obtain ⟨a, vs, ea, hq, hr⟩ := r1'
  refine ⟨a, vs, ea, sqT_mono sM.mh hq, hr.length, ?_⟩
  have zr : ∀ {ds : List OI.D} {vs : List V} {F : List Addr}, Reps K M H ds vs F → ∃ F', RTm K M H (vs.zip ds ++ ts) F' ∧ ∀ c, F'.count c = F.count c + F2.count c := by
    intro ds
    induction ds with
    | nil =>
      intro vs F h
      obtain ⟨q1, q2⟩ := h.inv0
      subst q1 q2
      exact ⟨F2, r2, fun c => by simp⟩
    | cons d ds ih =>
      intro vs F h
      obtain ⟨v, vr, G1, G2, q1, q2, k1, k2⟩ := h.inv
      subst q1 q2
      obtain ⟨F', w1, w2⟩ := ih k2
      exact ⟨G1 ++ F', ⟨G1, F', rfl, k1, w1⟩, fun c => by rw [List.count_append, List.count_append, w2 c]; omega⟩
  obtain ⟨F', w1, w2⟩ := zr hr
  exact (sM.re_of sM.re w1 fun c => by rw [w2 c, ef, List.count_append]; exact Nat.le_refl _).sta
def gOf (K : PySem.W.Frag) (is : List Nat) (tup : Bool) : TG := if tup then gTup K is.length (gTs is) else gName (is.headD 0)
theorem bind_st {K : PySem.W.Frag} {f : Frm} {H : Hp} {σ : St} {e e3 : En} {ts : Tm} {x : V} {d : D} {is : List Nat} {tup : Bool} {P : St → Hp → Prop} (s : Sta K f H (wipe σ is) e ((x, d) :: ts)) (hb : bindT is tup d e = some e3)
    (h : ∀ σ2, wipe σ2 is = wipe σ is → Sta K f H σ2 e3 ts → P σ2 H) : gOf K is tup x (wipe σ is) H P := by
  unfold bindT at hb
  unfold gOf
  cases tup with
  | false =>
    simp only [Bool.false_eq_true, if_false] at hb ⊢
    split at hb
    · rename_i i
      cases hb
      refine h _ ?_ (Sta.put s i)
      refine wipe_eq (by rw [List.length_set, wipe_length]) fun j hj => ?_
      rw [List.getElem?_set_ne (fun z => hj (by have z' : i = j := z; rw [z']; exact List.mem_singleton.mpr rfl)), wipe_get hj]
    · cases hb
  | true =>
    simp only [if_true] at hb ⊢
    split at hb
    · rename_i ds
      split at hb
      · rename_i hl
        cases hb
        obtain ⟨a, vs, e1, hq, hv, s3⟩ := s.items
        refine ⟨a, vs, e1, hq, by rw [hv, hl], by rw [hv, hl], ?_⟩
        refine h _ ?_ (Sta.puts s3 hl.symm hv)
        refine wipe_eq (by rw [gsOf_len, wipe_length]) fun j hj => ?_
        rw [gsOf_get hj, wipe_get hj]
      · cases hb
    · cases hb
theorem tv_tt {e : En} {r : R} {x : D} (h : tv true e r = some x) : r = .d x := by
  cases r with
  | d y => cases h; rfl
  | pk i => cases h
def ttOf (K : PySem.W.Frag) (f : Frm) (gcs : List D) (cl : Cl) (q : Bool) (c : CE) : TT := if q then tT K f gcs cl c else tYes
theorem lc_in {K : PySem.W.Frag} {f : Frm} {is : List Nat} {tup q : Bool} {it c a : CE} {σ : St} {H : Hp} {Q : VK} (h : tE K f gcs cl (.lc is tup q it c a) σ H Q) : tLc (tI K f gcs cl it) (gOf K is tup) (ttOf K f gcs cl q c) (tE K f gcs cl a) is σ H Q := by
  obtain ⟨env, ts, s, r, env', hev, hq⟩ := h
  simp only [evE, tst, Bool.false_eq_true, if_false] at hev
  obtain ⟨xs, e1, h1, hev⟩ := bind_ok hev
  obtain ⟨ys, e6, h2, hev⟩ := bind_ok hev
  cases hev
  refine ⟨env, ts, s, xs, e1, h1, fun J H1 its hit s1 D0 hD => ?_⟩
  generalize hbd : (fun (x : D) (e2 : En) => match bindT is tup x e2 with
      | none => (Out.bad : Out (Option D))
      | some e3 => (if q then (evE gcs cl c true e3).bind fun r e4 => (match tv true e4 r with
          | some (.bl b) => .ok b e4
          | _ => .bad) else .ok true e3).bind fun b e4 => if b then (evE gcs cl a false e4).bind fun r e5 => match r with
            | .d y => .ok (some (frz y)) (wipeE e5 is)
            | .pk _ => .bad
          else .ok none (wipeE e4 is)) = body at h2
  have perm : ∀ {t : Tm} {p : V × D}, (its ++ (p :: t)).Perm (p :: (its ++ t)) := fun {t p} => List.perm_middle
  refine ⟨fun i m H => m = xs.length - i ∧ i ≤ xs.length ∧ ∃ e acc, Sta K f H (wipe σ is) e (its ++ ((.ref D0, .lst true acc) :: ts)) ∧ compL body (xs.drop i) e acc = .ok ys env' ∧ ∀ (j : Nat) d, e[j]? = some (some d) → j ∉ is,
    ⟨_, rfl, Nat.zero_le _, wipeE e1 is, [], ?_, h2, fun j d z => (wipeE_some z).2⟩, ?_⟩
  · obtain ⟨M, Fe, Ft, sM⟩ := s1
    exact ((sM.newL hD Reps.nil).perm perm.symm).wiped
  rintro i m H ⟨rfl, hi, e, acc, s, hev, hw⟩
  by_cases hlt : i < xs.length
  · have hd : xs.drop i = xs[i] :: xs.drop (i + 1) := List.drop_eq_getElem_cons hlt
    rw [hd] at hev
    simp only [compL] at hev
    obtain ⟨o, e5, hb, hev⟩ := bind_ok hev
    refine .inr ⟨hit.go i H _ e _ hlt s, fun H' => ∃ e acc, Sta K f H' (wipe σ is) e (its ++ ((.ref D0, .lst true acc) :: ts)) ∧ compL body (xs.drop (i + 1)) e acc = .ok ys env' ∧ ∀ (j : Nat) d, e[j]? = some (some d) → j ∉ is,
      fun H' hN => ⟨xs.length - (i + 1), by omega, rfl, hlt, hN⟩, fun x H' y => ?_⟩
    obtain ⟨d, g1, s2⟩ := hit.yld i H _ e _ x H' hlt s y
    have ed : xs[i] = d := Option.some.inj ((List.getElem?_eq_getElem hlt).symm.trans g1)
    rw [ed, ← hbd] at hb
    dsimp only at hb
    split at hb
    · cases hb
    · rename_i e3 hbt
      refine bind_st s2 hbt fun σ2 hσ s3 => ⟨hσ, ?_⟩
      obtain ⟨b, e4, hc, hb⟩ := bind_ok hb
      have fin : ∀ H3, Sta K f H3 σ2 e4 (its ++ ((.ref D0, .lst true acc) :: ts)) → if b = true then tE K f gcs cl a σ2 H3 fun y H4 => ∃ acc, H4 D0 = some (.lst acc) ∧ acc.length < sizeLine ∧ (∃ e acc', Sta K f (upd H4 D0 (.lst (acc ++ [y]))) (wipe σ is) e (its ++ ((.ref D0, .lst true acc') :: ts)) ∧ compL body (xs.drop (i + 1)) e acc' = .ok ys env' ∧ ∀ (j : Nat) d, e[j]? = some (some d) → j ∉ is)
          else ∃ e acc, Sta K f H3 (wipe σ is) e (its ++ ((.ref D0, .lst true acc) :: ts)) ∧ compL body (xs.drop (i + 1)) e acc = .ok ys env' ∧ ∀ (j : Nat) d, e[j]? = some (some d) → j ∉ is := by
        intro H3 s4
        cases b with
        | false =>
          simp only [Bool.false_eq_true, if_false] at hb ⊢
          injection hb with z1 z2
          subst z1 z2
          refine ⟨wipeE e4 is, acc, ?_, hev, fun j d z => (wipeE_some z).2⟩
          rw [← hσ]
          exact s4.wiped
        | true =>
          simp only [if_true] at hb ⊢
          obtain ⟨r, e7, ha, hb⟩ := bind_ok hb
          cases r with
          | pk _ => cases hb
          | d y =>
            injection hb with z1 z2
            subst z1 z2
            dsimp only at hev
            split at hev
            · rename_i hlen
              refine ⟨e4, _, s4, .d y, e7, ha, fun v H4 _ s5 => ?_⟩
              have s6 : Sta K f H4 σ2 e7 ((v, frz y) :: (.ref D0, .lst true acc) :: (its ++ ts)) := (Sta.fr (ts := its ++ ((.ref D0, .lst true acc) :: ts)) s5).perm (List.Perm.cons _ perm)
              obtain ⟨vs, k1, k2, k3⟩ := s6.appendT
              refine ⟨vs, k1, by rw [k2, ← lineN_eq]; exact hlen, wipeE e7 is, acc ++ [frz y], ?_, hev, fun j d z => (wipeE_some z).2⟩
              rw [← hσ]
              exact (k3.perm perm.symm).wiped
            · cases hev
      unfold ttOf
      cases q with
      | false =>
        simp only [Bool.false_eq_true, if_false] at hc ⊢
        injection hc with z1 z2
        subst z1 z2
        exact fin _ s3
      | true =>
        simp only [if_true] at hc ⊢
        obtain ⟨r, e7, hc, hc2⟩ := bind_ok hc
        split at hc2
        · rename_i b' hx
          injection hc2 with z1 z2
          subst z1 z2
          have := tv_tt hx
          subst this
          exact ⟨e3, _, s3, _, _, hc, fun H3 s4 => fin H3 s4⟩
        · cases hc2
  · have e0 : i = xs.length := by omega
    subst e0
    rw [List.drop_length] at hev
    simp only [compL] at hev
    injection hev with z1 z2
    subst z1 z2
    refine .inl ⟨hit.stop H _ e _ s, hq (.ref D0) H trivial ?_⟩
    exact (s.drops (os := its)).slots (wipe_length _ _).symm fun j d z => (wipe_get (hw j d z)).symm
/-- the parts of a comprehension -/
structure LcP (X : Cx) (f : Frm) (gcs : List D) (cl : Cl) (is : List Nat) (tup q : Bool) (it c a : CE) (elt tg iter : Expr) (ifs : List Expr) (scope : Scope) (own : List (Str × Nat)) : Prop where
  blk : BlkOk X.N X.env.scope scope own
  ow : own.map (·.2) = is
  hi : PI X tg iter (tI X.K f gcs cl it)
  hg : ∀ (s : Shared) (H : Hp) (C : Addr) (cs : List (Str × Addr)) (fp : List Addr), PG (X.blk s H scope (compEnvC scope cs C X.env) fp) tg (gOf X.K is tup)
  ht : ∀ (s : Shared) (H : Hp) (C : Addr) (cs : List (Str × Addr)) (fp : List Addr), PTs (X.blk s H scope (compEnvC scope cs C X.env) fp) ifs (ttOf X.K f gcs cl q c)
  he : ∀ (s : Shared) (H : Hp) (C : Addr) (cs : List (Str × Addr)) (fp : List Addr), PE (X.blk s H scope (compEnvC scope cs C X.env) fp) elt (tE X.K f gcs cl a)
  hs : ∀ x, foldedSetIterable iter X.env x = pure x
theorem names_ix {N : List Str} {sc : Scope} {fn gn : List Str} : ∀ {is : List Nat} {es : List Expr}, okNames ⟨N, sc, fn, gn⟩ is es = true → is.length = es.length ∧ ∀ p ∈ (es.map nameOf).zip is, N[p.2]? = some p.1
  | [], [], _ => ⟨rfl, by simp⟩
  | i :: is, e :: es, h => by
    cases e <;> first | (cases h; done) | skip
    rename_i x p
    simp only [okNames, Bool.and_eq_true] at h
    obtain ⟨h1, h2⟩ := names_ix h.2.2
    refine ⟨by simp [h1], fun p hp => ?_⟩
    rcases List.mem_cons.mp hp with z | z
    · rw [z]; exact isB_eq h.1
    · exact h2 p z
  | [], _ :: _, h => by cases h
  | _ :: _, [], h => by cases h
theorem blk_names {k : Ck} {X : Cx} {scope : Scope} {s : Shared} {H : Hp} {C : Addr} {cs : List (Str × Addr)} {fp : List Addr} (hN : X.N = k.N) : ∀ {is : List Nat} {es : List Expr}, okNames ⟨k.N, scope, k.fn, k.gn⟩ is es = true → NOk (X.blk s H scope (compEnvC scope cs C X.env) fp) is es
  | [], [], _ => trivial
  | i :: is, e :: es, h => by
    cases e <;> first | (cases h; done) | skip
    rename_i x p
    simp only [okNames, Bool.and_eq_true] at h
    refine ⟨⟨x, p, rfl, by show X.N[i]? = _; rw [hN]; exact isB_eq h.1, ?_⟩, blk_names hN h.2.2⟩
    rcases locB_ok h.2.1 with z | z
    · have w : (relS scope X.env.scope).names.lookup x = some .local := lookup_relS_keep (by intro z; cases z) z
      exact ⟨.inl w, .inr w⟩
    · have w : (relS scope X.env.scope).names.lookup x = some .cell := lookup_relS_keep (by intro z; cases z) z
      exact ⟨.inr w, .inl (by show (scope.names.lookup x == some NameKind.cell) = true; rw [z]; rfl)⟩
  | [], _ :: _, h => by cases h
  | _ :: _, [], h => by cases h
theorem clB_ok {o : Option NameKind} (h : clB o = true) : o = some .cell ∨ o = some .free := by
  unfold clB at h
  split at h
  · exact .inl rfl
  · exact .inr rfl
  · cases h
theorem zip_snd {α β : Type} : ∀ {l : List α} {m : List β}, m.length = l.length → (l.zip m).map (·.2) = m
  | [], [], _ => rfl
  | a :: l, b :: m, h => by
    show b :: (l.zip m).map (·.2) = b :: m
    rw [zip_snd (by simpa using h)]
  | [], _ :: _, h => by simp at h
  | _ :: _, [], h => by simp at h
theorem zip_fst {α β : Type} : ∀ {l : List α} {m : List β}, m.length = l.length → (l.zip m).map (·.1) = l
  | [], [], _ => rfl
  | a :: l, b :: m, h => by
    show a :: (l.zip m).map (·.1) = a :: l
    rw [zip_fst (by simpa using h)]
  | [], _ :: _, h => by simp at h
  | _ :: _, [], h => by simp at h
theorem lc_parts {is : List Nat} {tup q : Bool} {it c a : CE} (iht : SndI gcs cl n it) (ihc : SndE gcs cl n c) (iha : SndE gcs cl n a) {k : Ck} {X : Cx} (f : Frm) {e : Expr} (ok : XE k gcs cl n X) (h : okE k (.lc is tup q it c a) e = true) :
    ∃ elt tg iter ifs scope own pos, e = .ListComp elt [⟨tg, iter, ifs, 0⟩] scope pos ∧ LcP X f gcs cl is tup q it c a elt tg iter ifs scope own := by
  replace h : okLc k is tup q (fun tg => okI k tg it) (fun k' => okE k' c) (fun k' => okE k' a) e = true := by simpa only [okE] using h
  unfold okLc at h
  split at h
  · rename_i elt tg iter ifs z scope pos
    rw [Bool.and_eq_true] at h
    obtain ⟨hz, h⟩ := h
    have hz := of_decide_eq_true hz
    subst hz
    split at h
    · rename_i es hes
      simp only [Bool.and_eq_true, blkB] at h
      obtain ⟨⟨b1, b2, b3, b4⟩, h1, h2, h3, h4⟩ := h
      obtain ⟨n1, n2⟩ := names_ix b3
      have hlen : is.length = (es.map nameOf).length := by rw [List.length_map]; exact n1
      refine ⟨elt, tg, iter, ifs, scope, (es.map nameOf).zip is, pos, rfl, ⟨of_decide_eq_true b1, fun y hy => ?_, fun p hp => by rw [ok.hN]; exact n2 p hp, fun y hy hf => ?_, fun y hy hf => ?_⟩, zip_snd hlen, iht k X f tg iter ok h2, fun s H C cs fp => ?_, fun s H C cs fp => ?_, fun s H C cs fp => (iha (kin k scope) _ f elt (ok.blk s H C cs fp) h4).1, fun x => fold_no h1 x⟩
      · exact of_decide_eq_true (List.all_eq_true.mp b2 y hy)
      · have z := List.all_eq_true.mp b4 y hy
        rw [if_pos hf] at z
        rw [ok.hsc]
        exact clB_ok z
      · have z := List.all_eq_true.mp b4 y hy
        have nf : ¬ y.2 = .free := by rcases hf with w | w <;> rw [w] <;> intro q <;> cases q
        rw [if_neg nf, if_pos hf, Bool.or_eq_true] at z
        rw [zip_fst hlen, ok.hN]
        exact z.imp of_decide_eq_true fun w => by simpa using w
      · have nk := blk_names (s := s) (H := H) (C := C) (cs := cs) (fp := fp) ok.hN b3
        unfold tgNames at hes
        split at hes
        · cases hes
          cases is with
          | nil => cases nk
          | cons i is =>
            cases is with
            | cons _ _ => cases nk.2
            | nil =>
              obtain ⟨⟨x', p', e', w1, w2, w3⟩, _⟩ := nk
              cases e'
              exact pg_name ok.nd w1 w2 w3
        · cases hes
          obtain ⟨g1, g2, g3⟩ := pgs_nok (X := X.blk s H scope (compEnvC scope cs C X.env) fp) ok.nd nk
          exact pg_tup ok.calm g1 g2 g3
        · cases hes
      · unfold okIfs at h3
        unfold ttOf
        split at h3
        · have : q = false := by simpa using h3
          subst this
          exact pts_nil
        · rename_i ce
          rw [Bool.and_eq_true] at h3
          rw [h3.1, if_pos rfl]
          exact pts_one (ihc (kin k scope) _ f ce (ok.blk s H C cs fp) h3.2).2.1
        · cases h3
    · cases h
  · cases h
theorem s_lc (is : List Nat) (tup q : Bool) (it c a : CE) (iht : SndI gcs cl n it) (ihc : SndE gcs cl n c) (iha : SndE gcs cl n a) : SndE gcs cl n (.lc is tup q it c a) := by
  intro k X f e ok h
  obtain ⟨elt, tg, iter, ifs, scope, own, pos, e1, P⟩ := lc_parts iht ihc iha f ok h
  subst e1
  refine snd_plain (PE.mono (pe_lc ok.calm ok.nd P.hi P.blk P.hg P.ht P.he P.hs) fun σ H Q z => ?_) (fun _ => rfl) (fun _ => by simp only [evE, tst, Bool.false_eq_true, if_false]) (fun _ _ _ z => nomatch z)
  rw [P.ow]
  exact lc_in z
theorem snd_all (c : CE) : SndE gcs cl n c ∧ SndA gcs cl n c ∧ SndO gcs cl n c ∧ SndI gcs cl n c := by
  have noE : ∀ {c : CE}, (∀ k e, okE k c e = false) → SndE gcs cl n c := fun h k X f e ok z => by rw [h k e] at z; cases z
  have noA : ∀ {c : CE}, (∀ k e, okA k c e = false) → SndA gcs cl n c := fun h k X f e ok z => by rw [h k e] at z; cases z
  have noO : ∀ {c : CE}, (∀ k e, okO k c e = false) → SndO gcs cl n c := fun h k X f e ok z => by rw [h k e] at z; cases z
  have noI : ∀ {c : CE}, (∀ k tg e, okI k tg c e = false) → SndI gcs cl n c := fun h k X f tg e ok z => by rw [h k tg e] at z; cases z
  induction c with
  | cst d => exact ⟨s_cst d, noA fun _ _ => rfl, noO fun _ _ => rfl, noI fun _ _ _ => rfl⟩
  | gc j => exact ⟨s_gc j, noA fun _ _ => rfl, noO fun _ _ => rfl, noI fun _ _ _ => rfl⟩
  | var i => exact ⟨s_var i, noA fun _ _ => rfl, noO fun _ _ => rfl, noI fun _ _ _ => rfl⟩
  | mov i => exact ⟨s_mov i, noA fun _ _ => rfl, noO fun _ _ => rfl, noI fun _ _ _ => rfl⟩
  | pk i => exact ⟨s_pk i, noA fun _ _ => rfl, noO fun _ _ => rfl, noI fun _ _ _ => rfl⟩
  | p1 p a ih => exact ⟨s_p1 p a ih.1, noA fun _ _ => rfl, noO fun _ _ => rfl, noI fun _ _ _ => rfl⟩
  | p2 p a b iha ihb => exact ⟨s_p2 p a b iha.1 ihb.1, noA fun _ _ => rfl, noO fun _ _ => rfl, noI fun _ _ _ => rfl⟩
  | isi a t ih => exact ⟨s_isi a t ih.1, noA fun _ _ => rfl, noO fun _ _ => rfl, noI fun _ _ _ => rfl⟩
  | slc a lo hi ih ihl ihh => exact ⟨s_slc a lo hi ih.1 ihl.2.2.1 ihh.2.2.1, noA fun _ _ => rfl, noO fun _ _ => rfl, noI fun _ _ _ => rfl⟩
  | noE => exact ⟨noE fun _ _ => rfl, noA fun _ _ => rfl, s_noE, noI fun _ _ _ => rfl⟩
  | so a ih => exact ⟨noE fun _ _ => rfl, noA fun _ _ => rfl, s_so a ih.1, noI fun _ _ _ => rfl⟩
  | itv a ih => exact ⟨noE fun _ _ => rfl, noA fun _ _ => rfl, noO fun _ _ => rfl, s_itv a ih.1⟩
  | tupE a ih => exact ⟨s_tup a ih.2.1, noA fun _ _ => rfl, noO fun _ _ => rfl, noI fun _ _ _ => rfl⟩
  | lstE a ih => exact ⟨s_lst a ih.2.1, noA fun _ _ => rfl, noO fun _ _ => rfl, noI fun _ _ _ => rfl⟩
  | nil => exact ⟨noE fun _ _ => rfl, s_nil, noO fun _ _ => rfl, noI fun _ _ _ => rfl⟩
  | cons a as iha ih => exact ⟨noE fun _ _ => rfl, s_cons a as iha.1 ih.2.1, noO fun _ _ => rfl, noI fun _ _ _ => rfl⟩
  | call j as ih => exact ⟨s_call j as ih.2.1, noA fun _ _ => rfl, noO fun _ _ => rfl, noI fun _ _ _ => rfl⟩
  | one a ih => exact ⟨s_one a ih.1, noA fun _ _ => rfl, noO fun _ _ => rfl, noI fun _ _ _ => rfl⟩
  | and_ a b iha ihb => exact ⟨s_and a b iha.1 ihb.1, noA fun _ _ => rfl, noO fun _ _ => rfl, noI fun _ _ _ => rfl⟩
  | or_ a b iha ihb => exact ⟨s_or a b iha.1 ihb.1, noA fun _ _ => rfl, noO fun _ _ => rfl, noI fun _ _ _ => rfl⟩
  | not_ a ih => exact ⟨s_not a ih.1, noA fun _ _ => rfl, noO fun _ _ => rfl, noI fun _ _ _ => rfl⟩
  | ifE t a b iht iha ihb => exact ⟨s_if t a b iht.1 iha.1 ihb.1, noA fun _ _ => rfl, noO fun _ _ => rfl, noI fun _ _ _ => rfl⟩
  | rng1 a ih => exact ⟨noE fun _ _ => rfl, noA fun _ _ => rfl, noO fun _ _ => rfl, s_rng1 a ih.1⟩
  | rng2 a b iha ihb => exact ⟨noE fun _ _ => rfl, noA fun _ _ => rfl, noO fun _ _ => rfl, s_rng2 a b iha.1 ihb.1⟩
  | lc is tup q it c a iht ihc iha => exact ⟨s_lc is tup q it c a iht.2.2.2 ihc.1 iha.1, noA fun _ _ => rfl, noO fun _ _ => rfl, noI fun _ _ _ => rfl⟩
  | enu a ih => exact ⟨noE fun _ _ => rfl, noA fun _ _ => rfl, noO fun _ _ => rfl, s_enu a ih.1⟩
end
end OI

/-! statements, defs -/
namespace OI
open PySem L2
def noComp : Expr → Bool
  | .ListComp .. => false | .SetComp .. => false | .DictComp .. => false | .GeneratorExp .. => true | _ => true
def isLcB : Expr → Bool
  | .ListComp .. => true | _ => false
/-- the store of a comprehension on the line of its name -/
def swB (sc : Scope) (x : Str) (p pos : Pos) (scope : Scope) : Bool := (if sc.kind.isAnnotationScope then ScopeKind.function else sc.kind) == .function && sc.names.lookup x == some .local && p.line == pos.line
      && !(scope.names.any fun (n, k) => n == x && (k == .local || k == .cell))
def okAsg (k : Ck) (i : Nat) (g : Expr → Bool) : Stmt → Bool
  | .Assign [.Name x _] e _ => isB k.N[i]? x && (locB k.sc x && ((noComp e || isLcB e) && g e))
  | _ => false
def okApp (k : Ck) (i : Nat) (g : Expr → Bool) : Stmt → Bool
  | .Expr (.Call (.Attribute (.Name x p) m ap) [e] [] cp) _ => okVar k i (.Name x p) && (decide (m = "append") && (decide (ap.endLine = cp.line) && (plainB e && g e)))
  | _ => false
def okEx (g : Expr → Bool) : Stmt → Bool
  | .Expr e _ => noComp e && g e
  | _ => false
def okRet (g : Expr → Bool) : Stmt → Bool
  | .Return (some e) _ => g e
  | _ => false
def okRetN : Stmt → Bool
  | .Return none _ => true
  | _ => false
def okIte (g : Expr → Bool) (a b : List Stmt → Bool) : Stmt → Bool
  | .If t x y _ => g t && (a x && b y)
  | _ => false
def okFor1 (k : Ck) (i : Nat) (g : Expr → Expr → Bool) (b : List Stmt → Bool) : Stmt → Bool
  | .For (.Name x p) it body [] _ => isB k.N[i]? x && (locB k.sc x && (plainB it && (g (.Name x p) it && b body)))
  | _ => false
def okForT (k : Ck) (is : List Nat) (g : Expr → Expr → Bool) (b : List Stmt → Bool) : Stmt → Bool
  | .For (.Tuple es q p) it body [] _ => okNames k is es && (plainB it && (g (.Tuple es q p) it && b body))
  | _ => false
def okPass : Stmt → Bool
  | .Pass _ => true
  | _ => false
mutual
def okS1 (k : Ck) : CS → Stmt → Bool
  | .skip => okPass
  | .asg i a => okAsg k i (okE k a)
  | .app i a => okApp k i (okE k a)
  | .ex a => okEx (okE k a)
  | .ret a => okRet (okE k a)
  | .retN => okRetN
  | .ite t a b => okIte (okE k t) (okSs k a) (okSs k b)
  | .for1 i it b => okFor1 k i (fun tg => okI k tg it) (okSs k b)
  | .forT is it b => okForT k is (fun tg => okI k tg it) (okSs k b)
  | .never => fun _ => true
  | _ => fun _ => false
def okSs (k : Ck) : CS → List Stmt → Bool
  | .skip => fun st => st.isEmpty
  | .seq a b => fun st => match st with
    | s :: r => okS1 k a s && okSs k b r
    | [] => false
  | .never => fun _ => true
  | _ => fun _ => false
end
section
variable (K : PySem.W.Frag) (f : Frm) (gcs : List D) (cl : Cl)
def SPost (Dn : Ends) (ts : Tm) (env' : En) : Fl → Prop
  | .nx => ∀ σ' H', Sta K f H' σ' env' ts → Dn.nx σ' H'
  | .rt d => ∀ v σ' H', Sta K f H' σ' env' ((v, d) :: ts) → Dn.rt v H'
  | .bk => ∀ σ' H', Sta K f H' σ' env' ts → Dn.bk σ' H'
  | .ct => ∀ σ' H', Sta K f H' σ' env' ts → Dn.ct σ' H'
def tS (c : CS) : TS := fun Dn σ H => ∃ env ts, Sta K f H σ env ts ∧ ∃ fl env', evS gcs cl c env = .ok fl env' ∧ SPost K f Dn ts env' fl
end
section
variable {X : Cx}
theorem PS.mono {st : Stmt} {t t' : TS} (h : PS X st t) (hi : ∀ D σ H, t' D σ H → t D σ H) : PS X st t' := ⟨fun pins s σ H D I q => h.run pins s σ H D I (hi D σ H q)⟩
theorem PSs.mono {st : List Stmt} {t t' : TS} (h : PSs X st t) (hi : ∀ D σ H, t' D σ H → t D σ H) : PSs X st t' := ⟨fun pins s σ H D I q => h.run pins s σ H D I (hi D σ H q)⟩
end
theorem swap_no {e : Expr} {t : Option Expr} {l : Nat} {env : Env} (h : noComp e = true) : swapsWith e t l env = pure false := by
  cases e <;> first | rfl | cases h
section
variable {K : PySem.W.Frag} {f : Frm} {M H : Hp} {σ : St} {env : En} {ts : Tm} {Fe Ft : List Addr} {gcs : List D} {cl : Cl}
end
section
variable {k : Ck} {gcs : List D} {cl : Cl} {n : Nat}
theorem nok_names {X : Cx} (ok : XOk k gcs cl n X) : ∀ {is : List Nat} {es : List Expr}, okNames k is es = true → NOk X is es
  | [], [], _ => trivial
  | i :: is, e :: es, h => by
    cases e <;> first | (cases h; done) | skip
    rename_i x p
    simp only [okNames, Bool.and_eq_true] at h
    exact ⟨⟨x, p, rfl, by rw [ok.hN]; exact isB_eq h.1, locB_ok (by rw [ok.hsc]; exact h.2.1), .inl (ok.fn x)⟩, nok_names ok h.2.2⟩
  | [], _ :: _, h => by cases h
  | _ :: _, [], h => by cases h
/-- the loop -/
theorem for_core {K : PySem.W.Frag} {f : Frm} {σ : St} {H : Hp} {env env' : En} {ts its : Tm} {J : It} {xs : List D} {body : D → En → Out Fl} {fl : Fl} {Dn : Ends} {g : TG} {tb : TS} (it : ItOk K f J xs its) (s : Sta K f H σ env (its ++ ts)) (hev : forL body xs env = .ok fl env') (q : SPost K f Dn ts env' fl)
    (turn : ∀ (x : V) (d : D) (e e1 : En) (f1 : Fl) (σ : St) (H : Hp) (N : St → Hp → Prop), Sta K f H σ e ((x, d) :: (its ++ ts)) → body d e = .ok f1 e1 →
      SPost K f { Dn with nx := N, ct := N, bk := Dn.nx } (its ++ ts) e1 f1 → g x σ H fun σ2 H2 => tb { Dn with nx := N, ct := N, bk := Dn.nx } σ2 H2) :
    ∃ W : Nat → Nat → St → Hp → Prop, (∃ m, W 0 m σ H) ∧ ∀ i m σ H, W i m σ H →
      (J.stop i H ∧ Dn.nx σ H) ∨ (J.go i H ∧ ∃ N : St → Hp → Prop, (∀ σ' H', N σ' H' → ∃ m', m' < m ∧ W (i + 1) m' σ' H') ∧ ∀ x H', J.yld i H x H' → g x σ H' fun σ2 H2 => tb { Dn with nx := N, ct := N, bk := Dn.nx } σ2 H2) := by
  refine ⟨fun i m σ H => m = xs.length - i ∧ i ≤ xs.length ∧ ∃ e, Sta K f H σ e (its ++ ts) ∧ forL body (xs.drop i) e = .ok fl env', ⟨_, rfl, Nat.zero_le _, env, s, hev⟩, ?_⟩
  rintro i m σ H ⟨rfl, hi, e, s, hev⟩
  by_cases hlt : i < xs.length
  · have hd : xs.drop i = xs[i] :: xs.drop (i + 1) := List.drop_eq_getElem_cons hlt
    rw [hd] at hev
    simp only [forL] at hev
    obtain ⟨f1, e1, h1, hev⟩ := bind_ok hev
    refine .inr ⟨it.go i H σ e ts hlt s, fun σ' H' => Sta K f H' σ' e1 (its ++ ts) ∧ forL body (xs.drop (i + 1)) e1 = .ok fl env', fun σ' H' hN => ⟨xs.length - (i + 1), by omega, rfl, hlt, e1, hN.1, hN.2⟩, fun x H' y => ?_⟩
    obtain ⟨d, h2, s2⟩ := it.yld i H σ e ts x H' hlt s y
    have ed : xs[i] = d := Option.some.inj ((List.getElem?_eq_getElem hlt).symm.trans h2)
    rw [ed] at h1
    refine turn x d e e1 f1 σ H' _ s2 h1 ?_
    cases f1 with
    | nx => exact fun σ' H' s' => ⟨s', hev⟩
    | ct => exact fun σ' H' s' => ⟨s', hev⟩
    | bk =>
      injection hev with e2 e3
      subst e2 e3
      exact fun σ' H' s' => q σ' H' s'.drops
    | rt d =>
      injection hev with e2 e3
      subst e2 e3
      exact fun v σ' H' s' => q v σ' H' (Sta.drops (os := its) (s'.perm (by
        show ((v, d) :: (its ++ ts)).Perm (its ++ (v, d) :: ts)
        exact List.perm_middle.symm)))
  · have e0 : i = xs.length := by omega
    subst e0
    rw [List.drop_length] at hev
    simp only [forL] at hev
    injection hev with e2 e3
    subst e2 e3
    exact .inl ⟨it.stop H σ e ts s, q σ H s.drops⟩
def SndS (k : Ck) (gcs : List D) (cl : Cl) (n : Nat) (c : CS) : Prop := ∀ (X : Cx) (f : Frm), XOk k gcs cl n X → (∀ st, okS1 k c st = true → PS X st (tS X.K f gcs cl c)) ∧ ∀ st, okSs k c st = true → PSs X st (tS X.K f gcs cl c)
theorem snd_S (c : CS) : SndS k gcs cl n c := by
  have no : ∀ {c : CS}, (∀ st, okSs k c st = false) → ∀ (X : Cx) (f : Frm) st, okSs k c st = true → PSs X st (tS X.K f gcs cl c) := fun h X f st z => by rw [h st] at z; cases z
  induction c with
  | skip =>
    intro X f ok
    refine ⟨fun st h => ?_, fun st h => ?_⟩
    · replace h : okPass st = true := h
      unfold okPass at h
      split at h
      · refine PS.mono ps_pass fun D σ H q => ?_
        obtain ⟨env, ts, s, fl, env', hev, q⟩ := q
        cases hev
        exact q σ H s
      · cases h
    · cases st with
      | cons _ _ => cases h
      | nil =>
        refine PSs.mono pss_nil fun D σ H q => ?_
        obtain ⟨env, ts, s, fl, env', hev, q⟩ := q
        cases hev
        exact q σ H s
  | seq a b iha ihb =>
    intro X f ok
    refine ⟨fun st h => (by cases h), fun st h => ?_⟩
    cases st with
    | nil => cases h
    | cons st r =>
      simp only [okSs, Bool.and_eq_true] at h
      refine PSs.mono (pss_cons ((iha X f ok).1 st h.1) ((ihb X f ok).2 r h.2)) fun D σ H q => ?_
      obtain ⟨env, ts, s, fl, env', hev, q⟩ := q
      simp only [evS] at hev
      obtain ⟨f1, e1, h1, hev⟩ := bind_ok hev
      refine ⟨env, ts, s, f1, e1, h1, ?_⟩
      cases f1 with
      | nx => exact fun σ' H' s' => ⟨e1, ts, s', fl, env', hev, q⟩
      | rt d => cases hev; exact q
      | bk => cases hev; exact q
      | ct => cases hev; exact q
  | asg i a =>
    intro X f ok
    refine ⟨fun st h => ?_, no (fun _ => rfl) X f⟩
    replace h : okAsg k i (okE k a) st = true := h
    unfold okAsg at h
    split at h
    · rename_i x p e pos
      simp only [Bool.and_eq_true] at h
      obtain ⟨h1, h2, h3, h4⟩ := h
      have hN : X.N[i]? = some x := by rw [ok.hN]; exact isB_eq h1
      have hL : Loc X.env.scope x := locB_ok (by rw [ok.hsc]; exact h2)
      have fin : ∀ {D : Ends} {σ : St} {H : Hp}, tS X.K f gcs cl (.asg i a) D σ H → tAsg (tE X.K f gcs cl a) (gName i) D σ H := fun {D σ H} q => by
        obtain ⟨env, ts, s, fl, env', hev, q⟩ := q
        simp only [evS] at hev
        obtain ⟨r, e1, h1, hev⟩ := bind_ok hev
        cases r with
        | pk j => cases hev
        | d y =>
          cases hev
          exact ⟨env, ts, s, _, _, h1, fun v H' _ s1 => q _ _ (Sta.put s1 i)⟩
      by_cases hc : noComp e = true
      · exact PS.mono (ps_set (i := i) ok.nd hN hL ((snd_all a).1 k X f e ok.toXE h4).1 (swap_no hc) (.inl (ok.fn x))) fun D σ H q => fin q
      · have hl : isLcB e = true := by simpa [hc] using h3
        cases e <;> first | (cases hl; done) | skip
        rename_i elt gens scope pos2
        have hsw : ∀ b, swB X.env.scope x p pos2 scope = b → swapsWith (.ListComp elt gens scope pos2) (some (.Name x p)) pos.line X.env = pure b := fun b hb => by subst hb; rfl
        cases hb : swB X.env.scope x p pos2 scope with
        | false => exact PS.mono (ps_set (i := i) ok.nd hN hL ((snd_all a).1 k X f _ ok.toXE h4).1 (hsw _ hb) (.inl (ok.fn x))) fun D σ H q => fin q
        | true =>
          have hy : X.env.scope.names.lookup x = some .local := by
            unfold swB at hb
            simp only [Bool.and_eq_true, beq_iff_eq] at hb
            exact hb.1.1.2
          cases a with
          | lc is tup q it c a0 =>
            obtain ⟨elt', tg, iter, ifs, scope', own, pos', e1, P⟩ := lc_parts (snd_all it).2.2.2 (snd_all c).1 (snd_all a0).1 f ok.toXE h4
            cases e1
            refine PS.mono (ps_setLc (i := i) ok.calm ok.nd hN hy (hsw _ hb) P.hi P.blk P.hg P.ht P.he P.hs) fun D σ H q => ?_
            rw [P.ow]
            exact lc_in (fin q)
          | cst d => cases d <;> cases h4
          | _ => cases h4
    · cases h
  | app i a =>
    intro X f ok
    refine ⟨fun st h => ?_, no (fun _ => rfl) X f⟩
    replace h : okApp k i (okE k a) st = true := h
    unfold okApp at h
    split at h
    · rename_i x p m ap e cp pos
      simp only [Bool.and_eq_true] at h
      have q := of_decide_eq_true h.2.1; subst q
      obtain ⟨x', p', ex, pe⟩ := okVar_ok (gcs := gcs) (cl := cl) (n := n) h.1
      have pa := pa_cons ((snd_all a).1 k X f e ok.toXE h.2.2.2.2).1 pa_nil (star_of (env := X.env) h.2.2.2.1)
      have st := star_of (es := []) (env := X.env) h.2.2.2.1
      refine PS.mono (ps_expr (pe_bm PySem.F.plainAttrs_list PySem.F.slot_list_append PySem.F.type_list_append mt_append (pe X ok.toXE) pa rfl (by rw [st]; rfl) (by rw [of_decide_eq_true h.2.2.1]; exact beq_self_eq_true _) st rfl) rfl) fun D σ H q => ?_
      obtain ⟨env, ts, s, fl, env', hev, q⟩ := q
      simp only [evS] at hev
      split at hev
      · rename_i ys hd0
        obtain ⟨r, e1, h1, hev⟩ := bind_ok hev
        split at hev
        · rename_i y xs hd
          split at hev
          · rename_i hlen
            cases hev
            obtain ⟨M, Fe, Ft, sM⟩ := id s
            obtain ⟨v0, F0, g1, g2⟩ := sM.slot hd0
            obtain ⟨a0, vs0, F', e4, hs0, _⟩ := repL sM.mh g2
            subst e4
            refine ⟨.ref a0, g1, .inl ⟨rfl, vs0, hs0⟩, env, ts, s, _, _, h1, fun v H' _ s1 => ?_⟩
            obtain ⟨M1, Fe1, Ft1, sM1⟩ := s1
            obtain ⟨b, vs, k1, k2, k3, k4⟩ := StaM.append (ts := ts) sM1 hd
            rw [g1] at k1
            cases k1
            exact ⟨a0, vs, v, rfl, rfl, k2, by rw [k3, ← lineN_eq]; exact hlen, q σ _ k4⟩
          · cases hev
        · cases hev
      · cases hev
    · cases h
  | ex a =>
    intro X f ok
    refine ⟨fun st h => ?_, no (fun _ => rfl) X f⟩
    replace h : okEx (okE k a) st = true := h
    unfold okEx at h
    split at h
    · rename_i e pos
      rw [Bool.and_eq_true] at h
      refine PS.mono (ps_expr ((snd_all a).1 k X f e ok.toXE h.2).1 (swap_no h.1)) fun D σ H q => ?_
      obtain ⟨env, ts, s, fl, env', hev, q⟩ := q
      simp only [evS] at hev
      obtain ⟨r, e1, h1, hev⟩ := bind_ok hev
      cases hev
      exact ⟨env, ts, s, _, _, h1, fun v H' _ s1 => q σ H' s1.drops⟩
    · cases h
  | ret a =>
    intro X f ok
    refine ⟨fun st h => ?_, no (fun _ => rfl) X f⟩
    replace h : okRet (okE k a) st = true := h
    unfold okRet at h
    split at h
    · rename_i e pos
      refine PS.mono (ps_ret ((snd_all a).1 k X f e ok.toXE h).1) fun D σ H q => ?_
      obtain ⟨env, ts, s, fl, env', hev, q⟩ := q
      simp only [evS] at hev
      obtain ⟨r, e1, h1, hev⟩ := bind_ok hev
      cases r with
      | pk j => cases hev
      | d y =>
        cases hev
        exact ⟨env, ts, s, _, _, h1, fun v H' _ s1 => q v σ H' s1⟩
    · cases h
  | retN =>
    intro X f ok
    refine ⟨fun st h => ?_, no (fun _ => rfl) X f⟩
    replace h : okRetN st = true := h
    unfold okRetN at h
    split at h
    · refine PS.mono ps_retN fun D σ H q => ?_
      obtain ⟨env, ts, s, fl, env', hev, q⟩ := q
      cases hev
      exact q .non σ H (s.lit fun M H => mkN)
    · cases h
  | ite t a b iha ihb =>
    intro X f ok
    refine ⟨fun st h => ?_, no (fun _ => rfl) X f⟩
    replace h : okIte (okE k t) (okSs k a) (okSs k b) st = true := h
    unfold okIte at h
    split at h
    · rename_i c x y pos
      simp only [Bool.and_eq_true] at h
      refine PS.mono (ps_if ((snd_all t).1 k X f c ok.toXE h.1).2.1 ((iha X f ok).2 x h.2.1) ((ihb X f ok).2 y h.2.2)) fun D σ H q => ?_
      obtain ⟨env, ts, s, fl, env', hev, q⟩ := q
      simp only [evS] at hev
      obtain ⟨r, e1, h1, hev⟩ := bind_ok hev
      split at hev
      · rename_i hx
        cases tv_t hx
        exact ⟨env, ts, s, true, e1, h1, fun H1 s1 => iteT ⟨e1, ts, s1, fl, env', hev, q⟩⟩
      · rename_i hx
        cases tv_t hx
        exact ⟨env, ts, s, false, e1, h1, fun H1 s1 => iteF ⟨e1, ts, s1, fl, env', hev, q⟩⟩
      · cases hev
    · cases h
  | for1 i it b ih =>
    intro X f ok
    refine ⟨fun st h => ?_, no (fun _ => rfl) X f⟩
    replace h : okFor1 k i (fun tg => okI k tg it) (okSs k b) st = true := h
    unfold okFor1 at h
    split at h
    · rename_i x p ie body pos
      simp only [Bool.and_eq_true] at h
      refine PS.mono (ps_for ok.pass ok.calm ((snd_all it).2.2.2 k X f (.Name x p) ie ok.toXE h.2.2.2.1) (pg_name (i := i) ok.nd (by rw [ok.hN]; exact isB_eq h.1) (locB_ok (by rw [ok.hsc]; exact h.2.1)) (.inl (ok.fn x))) ((ih X f ok).2 body h.2.2.2.2) (fold_no h.2.2.1)) fun D σ H q => ?_
      obtain ⟨env, ts, s, fl, env', hev, q⟩ := q
      simp only [evS] at hev
      obtain ⟨xs, e1, h1, hev⟩ := bind_ok hev
      refine ⟨env, ts, s, xs, e1, h1, fun J H' its hit s1 => for_core hit s1 hev q fun x d e e2 f1 σ H N s2 hb hp => ?_⟩
      exact ⟨_, _, Sta.put s2 i, f1, e2, hb, hp⟩
    · cases h
  | forT is it b ih =>
    intro X f ok
    refine ⟨fun st h => ?_, no (fun _ => rfl) X f⟩
    replace h : okForT k is (fun tg => okI k tg it) (okSs k b) st = true := h
    unfold okForT at h
    split at h
    · rename_i es qq p ie body pos
      simp only [Bool.and_eq_true] at h
      obtain ⟨g1, g2, g3⟩ := pgs_nok ok.nd (nok_names ok h.1)
      refine PS.mono (ps_for ok.pass ok.calm ((snd_all it).2.2.2 k X f (.Tuple es qq p) ie ok.toXE h.2.2.1) (pg_tup ok.calm g1 g2 g3) ((ih X f ok).2 body h.2.2.2) (fold_no h.2.1)) fun D σ H q => ?_
      obtain ⟨env, ts, s, fl, env', hev, q⟩ := q
      simp only [evS] at hev
      obtain ⟨xs, e1, h1, hev⟩ := bind_ok hev
      refine ⟨env, ts, s, xs, e1, h1, fun J H' its hit s1 => for_core hit s1 hev q fun x d e e2 f1 σ H N s2 hb hp => ?_⟩
      split at hb
      · rename_i ds
        split at hb
        · rename_i hl
          obtain ⟨M, Fe, Ft, sM⟩ := s2
          obtain ⟨F1, F2, ef, r1, r2⟩ := sM.rt
          have r1' : Rep X.K M H (.tup ds) x F1 := r1
          unfold Rep at r1'
          obtain ⟨a, vs, ea, hq, hr⟩ := r1'
          have hvl := hr.length
          refine ⟨a, vs, ea, sqT_mono sM.mh hq, by rw [hvl, hl], by rw [hvl, hl], ?_⟩
          have s3 : Sta X.K f H σ e (vs.zip ds ++ (its ++ ts)) := by
            have zr : ∀ {ds : List OI.D} {vs : List V} {F : List Addr}, Reps X.K M H ds vs F → ∃ F', RTm X.K M H (vs.zip ds ++ (its ++ ts)) F' ∧ ∀ c, F'.count c = F.count c + F2.count c := by
              intro ds
              induction ds with
              | nil =>
                intro vs F h
                obtain ⟨q1, q2⟩ := h.inv0
                subst q1 q2
                exact ⟨F2, r2, fun c => by simp⟩
              | cons d ds ih =>
                intro vs F h
                obtain ⟨v, vr, G1, G2, q1, q2, k1, k2⟩ := h.inv
                subst q1 q2
                obtain ⟨F', w1, w2⟩ := ih k2
                exact ⟨G1 ++ F', ⟨G1, F', rfl, k1, w1⟩, fun c => by rw [List.count_append, List.count_append, w2 c]; omega⟩
            obtain ⟨F', w1, w2⟩ := zr hr
            exact (sM.re_of sM.re w1 fun c => by rw [w2 c, ef, List.count_append]; exact Nat.le_refl _).sta
          exact ⟨_, _, Sta.puts s3 hl.symm hvl, f1, e2, hb, hp⟩
        · cases hb
      · cases hb
    · cases h
  | never =>
    intro X f ok
    refine ⟨fun st _ => PS.mono ps_never fun D σ H q => ?_, fun st _ => PSs.mono pss_never fun D σ H q => ?_⟩
    · obtain ⟨env, ts, s, fl, env', hev, q⟩ := q
      cases hev
    · obtain ⟨env, ts, s, fl, env', hev, q⟩ := q
      cases hev
end
end OI

/-! the whole program -/
namespace OI
open PySem L2
/-- what the top has left -/
structure Prg (K : PySem.W.Frag) (mg : Str → Option Value) (tab : List Fd) (fn gn : List Str) (gcs : List D) : Prop where
  fns : ∀ (j : Nat) x, fn[j]? = some x → ∃ (d : Fd) (st : Stmt) (f : Addr) (fd : FuncData) (qual : Str), tab[j]? = some d ∧ Fun K x qual st f fd ∧ mg x = some (.ref f) ∧ Binds K fd (d.N.take d.np) [] ∧ d.np ≤ d.N.length ∧
    FnScope d.N (d.N.take d.np) (defScope st) ∧ okSs ⟨d.N, defScope st, fn, gn⟩ d.body (defBody st) = true
  blt : ∀ x ∈ bltNames, mg x = none
  gc : ∀ (j : Nat) x, gn[j]? = some x → ∃ v u d, mg x = some u ∧ RelV v u ∧ gcs[j]? = some d ∧ ∀ M H, Rep K M H d v []
theorem renv_start {K : PySem.W.Frag} {M H : Hp} : ∀ {ds : List D} {vs : List V}, Reps K M H ds vs [] → ∀ m, REnv K M H (ds.map some ++ List.replicate m none) (vs.map some ++ List.replicate m none) []
  | [], vs, h, m => by
    obtain ⟨e, _⟩ := h.inv0
    subst e
    induction m with
    | zero => exact ⟨rfl, rfl⟩
    | succ m ih => exact ⟨none, _, rfl, ih⟩
  | d :: ds, vs, h, m => by
    obtain ⟨v, vr, F1, F2, e1, e2, h1, h2⟩ := h.inv
    obtain ⟨z1, z2⟩ := List.append_eq_nil_iff.mp e2.symm
    subst e1 z1 z2
    exact ⟨v, _, [], [], rfl, rfl, h1, renv_start h2 m⟩
section
variable {P : Program} {w : World} {K : PySem.W.Frag} {mg : Str → Option Value} {base : Heap} {tab : List Fd} {fn gn : List Str} {gcs : List D}
theorem run_len {n j : Nat} {d : Fd} (hd : tab[j]? = some d) {ds : List D} {r : FR} (h : run gcs tab n j ds = some r) : ds.length = d.np := by
  cases n with
  | zero => cases h
  | succ n =>
    simp only [run, hd] at h
    split at h
    · assumption
    · cases h
theorem snd_run (p : Prg K mg tab fn gn gcs) : ∀ (n j : Nat) (x : Str), fn[j]? = some x → ∀ (d : Fd) (st : Stmt) (f : Addr) (fd : FuncData) (qual : Str), tab[j]? = some d → Fun K x qual st f fd → d.np ≤ d.N.length →
    FnScope d.N (d.N.take d.np) (defScope st) → okSs ⟨d.N, defScope st, fn, gn⟩ d.body (defBody st) = true → FnOk P w K mg base CX0 n f fd (d.N.take d.np) (spOf K (d.N.take d.np).length (run gcs tab n j)) := by
  intro n
  induction n with
  | zero =>
    intro j x hx d st f fd qual hd F hnp S hok
    refine ⟨fun vs H Q E h => ?_, fun A outer s H args us vs Q E _ _ _ _ h => ?_⟩
    · obtain ⟨M, ds, d, _, _, _, z, _⟩ := h
      cases z
    · obtain ⟨M, ds, d, _, _, _, z, _⟩ := h
      cases z
  | succ n ih =>
    intro j x hx d st f fd qual hd F hnp S hok
    refine F.ok S (fun vs H Q E h => ?_) (fun cdv A outer s H vs Q E hr h => ?_)
    · obtain ⟨M, ds, d, e, _⟩ := h
      exact e
    · obtain ⟨M, ds, r, el, hm, hr1, hrun, q⟩ := h
      have hpl : (d.N.take d.np).length = d.np := by rw [List.length_take]; omega
      have ok : XOk ⟨d.N, defScope st, fn, gn⟩ gcs (run gcs tab n) n (cxOf CX0 P w K mg base d.N qual (defScope st) f cdv A outer s H E).nox :=
        { nd := S.nd, hN := rfl, hsc := rfl, calm := rfl, pass := PassesOwn.never, fn := fun _ => rfl, room := hr, blt := p.blt, gc := p.gc,
          fns := fun j' x' hx' => by
            obtain ⟨d', st', f', fd', q', h1, h2, h3, h4, h5, h6, h7⟩ := p.fns j' x' hx'
            exact ⟨f', fd', _, h3, h2.kp, h4, fun ds r hr => by rw [run_len h1 hr, List.length_take]; omega, ih j' x' hx' d' st' f' fd' q' h1 h2 h5 h6 h7⟩ }
      refine ⟨tS K ⟨H, M, []⟩ gcs (run gcs tab n) d.body, (snd_S d.body _ _ ok).2 _ hok, ?_⟩
      have hl : vs.length = d.np := el.trans hpl
      simp only [run, hd] at hrun
      have hdl : ds.length = d.np := by rw [← hr1.length]; exact hl
      rw [if_pos hdl] at hrun
      have s0 : Sta K ⟨H, M, []⟩ H (L2.start d.N vs) (ds.map some ++ List.replicate (d.N.length - d.np) none) [] := by
        refine ⟨M, [], [], hm, fun _ _ e => e, fun _ _ e => .inl e, fun _ _ e _ => e, ?_, rfl, fun a => by simp, fun a m => by simp at m, fun a m => by simp at m⟩
        unfold L2.start
        rw [hl]
        exact renv_start hr1 _
      split at hrun
      · rename_i r' e' hev
        have er : r' = r := by injection hrun with z; injection z
        subst er
        refine ⟨_, [], s0, _, _, hev, fun v σ' H' s1 => ?_⟩
        obtain ⟨M', Fe, Ft, sM⟩ := s1
        obtain ⟨F1, F2, e1, h1, h2⟩ := sM.rt
        have e2 : F2 = [] := h2
        subst e2 e1
        refine q v H' M' F1 sM.mm sM.mh (fun b o e => ?_) (fun b o e => sM.fr b o e (by simp)) h1 (fun a => ?_) (fun a m => ⟨sM.fm a (.inr (by simpa using m)), ?_⟩)
        · rcases sM.mo b o e with z | z | z
          · exact .inl z
          · exact .inr z
          · cases z
        · have := sM.one a
          rw [List.append_nil] at this
          omega
        · rcases sM.fb a (.inr (by simpa using m)) with z | z
          · cases z
          · exact z
      · rename_i e' hev
        have er : D.non = r := by injection hrun with z; injection z
        subst er
        refine ⟨_, [], s0, _, _, hev, fun σ' H' s1 => ?_⟩
        obtain ⟨M', Fe, Ft, sM⟩ := s1
        refine q .non H' M' [] sM.mm sM.mh (fun b o e => ?_) (fun b o e => sM.fr b o e (by simp)) mkN (fun a => by simp) (fun a m => by cases m)
        rcases sM.mo b o e with z | z | z
        · exact .inl z
        · exact .inr z
        · cases z
      · cases hrun
      · cases hrun
/-- the law: its call gives True -/
theorem sp_law {g : List D → Option FR} {H : Hp} {a : Addr} {ns : List Int} (hg : g [.lst false (ns.map D.int)] = some (.ok (.bl true))) (h : SqL K H a (ns.map V.int)) : spOf K 1 g [.ref a] H (fun v _ => v = .bl true) fun _ _ _ => False := by
  refine ⟨H, [.lst false (ns.map D.int)], .bl true, rfl, fun _ _ e => e, Reps.one ?_, hg, fun v H' M' F _ _ _ _ r _ _ => repB r⟩
  unfold Rep
  refine ⟨a, _, rfl, rfl, h, ?_⟩
  clear hg h
  induction ns with
  | nil => exact Reps.nil
  | cons n ns ih => exact Reps.cons (mkI n) ih
end
end OI

/-! plain reckoning with the meaning -/
namespace OI
open PySem L2
def Sat {α : Type} (o : Out α) (Q : α → En → Prop) : Prop := match o with
  | .ok a e => Q a e
  | _ => False
section
variable {α β : Type}
theorem sat_ok {a : α} {e : En} {Q : α → En → Prop} : Sat (.ok a e) Q = Q a e := rfl
theorem sat_bad {Q : α → En → Prop} : Sat .bad Q = False := rfl
theorem sat_if {c : Prop} [Decidable c] {a : α} {e : En} {Q : α → En → Prop} : Sat (if c then .ok a e else .bad) Q = (c ∧ Q a e) := by
  by_cases h : c
  · rw [if_pos h]; simp [h, Sat]
  · rw [if_neg h]; simp [h, Sat]
theorem sat_bind {o : Out α} {g : α → En → Out β} {Q : β → En → Prop} : Sat (o.bind g) Q = Sat o fun a e => Sat (g a e) Q := by
  cases o <;> rfl
theorem Sat.mono {o : Out α} {Q Q' : α → En → Prop} (h : Sat o Q) (hi : ∀ a e, Q a e → Q' a e) : Sat o Q' := by
  cases o with
  | ok a e => exact hi a e h
  | exc x e => exact h
  | bad => exact h
theorem Sat.get {o : Out α} {Q : α → En → Prop} (h : Sat o Q) : ∃ a e, o = .ok a e ∧ Q a e := by
  cases o with
  | ok a e => exact ⟨a, e, rfl, h⟩
  | exc x e => exact h.elim
  | bad => exact h.elim
end
/-- a loop by its invariant; Q: what is wanted behind it -/
theorem forL_sat {body : D → En → Out Fl} {Q : Fl → En → Prop} : ∀ (xs : List D) (e : En) (I : Nat → En → Prop), I 0 e →
    (∀ (i : Nat) x e, xs[i]? = some x → I i e → Sat (body x e) fun f e1 => match f with
      | .nx => I (i + 1) e1 | .ct => I (i + 1) e1 | .bk => Q .nx e1 | .rt d => Q (.rt d) e1) → (∀ e, I xs.length e → Q .nx e) → Sat (forL body xs e) Q
  | [], e, I, h0, _, hd => hd e h0
  | x :: xs, e, I, h0, hs, hd => by
    show Sat ((body x e).bind _) Q
    rw [sat_bind]
    refine (hs 0 x e rfl h0).mono fun f e1 q => ?_
    cases f with
    | nx => exact forL_sat xs e1 (fun i => I (i + 1)) q (fun i x e h1 h2 => hs (i + 1) x e (by simpa using h1) h2) hd
    | ct => exact forL_sat xs e1 (fun i => I (i + 1)) q (fun i x e h1 h2 => hs (i + 1) x e (by simpa using h1) h2) hd
    | bk => exact q
    | rt d => exact q
/-- a loop that goes through -/
theorem for_inv {body : D → En → Out Fl} {Q : Fl → En → Prop} {xs : List D} {e : En} (I : Nat → En → Prop) (h0 : I 0 e) (hs : ∀ (i : Nat) x e, xs[i]? = some x → I i e → Sat (body x e) fun f e1 => f = .nx ∧ I (i + 1) e1) (hd : ∀ e, I xs.length e → Q .nx e) : Sat (forL body xs e) Q :=
  forL_sat xs e I h0 (fun i x e h1 h2 => (hs i x e h1 h2).mono fun f e1 q => by obtain ⟨q1, q2⟩ := q; subst q1; exact q2) hd
/-- a loop that may return -/
theorem for_ret {body : D → En → Out Fl} {Q : Fl → En → Prop} {xs : List D} {e : En} (I : Nat → En → Prop) (R : D → Prop) (h0 : I 0 e) (hs : ∀ (i : Nat) x e, xs[i]? = some x → I i e → Sat (body x e) fun f e1 => (f = .nx ∧ I (i + 1) e1) ∨ ∃ d, f = .rt d ∧ R d) (hd : ∀ e, I xs.length e → Q .nx e) (hr : ∀ d e, R d → Q (.rt d) e) : Sat (forL body xs e) Q :=
  forL_sat xs e I h0 (fun i x e h1 h2 => (hs i x e h1 h2).mono fun f e1 q => by
    rcases q with ⟨q1, q2⟩ | ⟨d, q1, q2⟩
    · subst q1; exact q2
    · subst q1; exact hr d e1 q2) hd
/-- a def's answer -/
theorem run_of {gcs : List D} {tab : List Fd} {n j : Nat} {d : Fd} {ds : List D} {r : D} (hd : tab[j]? = some d) (hl : ds.length = d.np)
    (h : Sat (evS gcs (run gcs tab n) d.body (ds.map some ++ List.replicate (d.N.length - d.np) none)) fun f _ => f = .rt r ∨ (f = .nx ∧ r = .non)) : run gcs tab (n + 1) j ds = some (.ok r) := by
  simp only [run, hd, if_pos hl]
  obtain ⟨f, e, h1, h2⟩ := h.get
  rw [h1]
  rcases h2 with h2 | ⟨h2, h3⟩
  · rw [h2]
  · rw [h2, h3]
/-! ### the equations, for simp -/
/-- said with a proof of its own -/
theorem tr {α : Sort _} {a b : α} (h : a = b) : a = b := h
/-- a slot's datum -/
def sl (e : En) (i : Nat) : Option D := (e[i]?).join
theorem sl_zero {o : Option D} {e : En} : sl (o :: e) 0 = o := tr rfl
theorem sl_succ {o : Option D} {e : En} {i : Nat} : sl (o :: e) (i + 1) = sl e i := by
  unfold sl
  rw [List.getElem?_cons_succ]
/-- with a datum that must be there -/
def SD (o : Option D) (P : D → Prop) : Prop := match o with
  | some x => P x
  | none => False
theorem sd_some {x : D} {P : D → Prop} : SD (some x) P = P x := tr rfl
/-- an answer of a primitive -/
def SP_ (o : Option PR) (P : D → Prop) : Prop := match o with
  | some x => P x.dat
  | none => False
theorem sp_some {x : PR} {P : D → Prop} : SP_ (some x) P = P x.dat := tr rfl
theorem sp_if {c : Prop} [Decidable c] {x : PR} {P : D → Prop} : SP_ (if c then some x else none) P = (c ∧ P x.dat) := by
  by_cases h : c
  · rw [if_pos h]; simp [h, SP_]
  · rw [if_neg h]; simp [h, SP_]
/-- a truth value -/
def SB (o : Option D) (P : Bool → Prop) : Prop := match o with
  | some (.bl b) => P b
  | _ => False
theorem sb_some {b : Bool} {P : Bool → Prop} : SB (some (.bl b)) P = P b := tr rfl
/-- an answer of a call -/
def SF (o : Option FR) (P : D → Prop) : Prop := match o with
  | some (.ok d) => P d
  | _ => False
theorem sf_some {d : D} {P : D → Prop} : SF (some (.ok d)) P = P d := tr rfl
/-- of a list of items -/
def SI (o : Option (List D)) (P : List D → Prop) : Prop := match o with
  | some x => P x
  | none => False
theorem si_some {x : List D} {P : List D → Prop} : SI (some x) P = P x := tr rfl
theorem si_if {c : Prop} [Decidable c] {x : List D} {P : List D → Prop} : SI (if c then none else some x) P = (¬ c ∧ P x) := by
  by_cases h : c
  · rw [if_pos h]; simp [h, SI]
  · rw [if_neg h]; simp [h, SI]
theorem res_d {e : En} {x : D} : res e (.d x) = some x := tr rfl
theorem res_pk {e : En} {i : Nat} : res e (.pk i) = sl e i := tr rfl
theorem tv_t_d {e : En} {x : D} : tv true e (.d x) = some x := tr rfl
theorem tv_f {e : En} {r : R} : tv false e r = res e r := by cases r <;> rfl
section
variable {gcs : List D} {cl : Cl} {e : En} {Q : R → En → Prop} {QF : Fl → En → Prop}
theorem sat_tst {o : Out R} : Sat (tst true o) Q = Sat o fun r e1 => SD (res e1 r) fun x => Q (.d (.bl (truth x))) e1 := by
  show Sat (o.bind _) Q = _
  rw [sat_bind]
  congr 1
  funext r e1
  cases res e1 r <;> rfl
theorem tst_f {o : Out R} : tst false o = o := tr rfl
theorem sat_prOut {o : Option PR} : Sat (prOut e o) Q = SP_ o fun d => Q (.d d) e := by cases o <;> rfl
theorem x_cst {d : D} : Sat (evE gcs cl (.cst d) false e) Q = Q (.d d) e := tr rfl
theorem x_gc {k : Nat} : Sat (evE gcs cl (.gc k) false e) Q = SD (gcs[k]?) fun d => Q (.d d) e := by
  simp only [evE, tst_f]
  cases gcs[k]? <;> rfl
theorem x_var {i : Nat} : Sat (evE gcs cl (.var i) false e) Q = SD (sl e i) fun d => if own d then Q (.d (frz d)) (e.set i (some (frz d))) else Q (.d d) e := by
  simp only [evE, tst_f, sl]
  cases h : e[i]? with
  | none => rfl
  | some o =>
    cases o with
    | none => rfl
    | some d =>
      dsimp only [Option.join_some, SD]
      by_cases q : own d = true
      · rw [if_pos q, if_pos q]; rfl
      · rw [if_neg q, if_neg q]; rfl
theorem x_mov {i : Nat} : Sat (evE gcs cl (.mov i) false e) Q = SD (sl e i) fun d => Q (.d d) (e.set i none) := by
  simp only [evE, tst_f, sl]
  cases h : e[i]? with
  | none => rfl
  | some o => cases o <;> rfl
theorem x_pk {i : Nat} : Sat (evE gcs cl (.pk i) false e) Q = SD (sl e i) fun _ => Q (.pk i) e := by
  simp only [evE, tst_f, sl]
  cases h : e[i]? with
  | none => rfl
  | some o => cases o <;> rfl
theorem x_p1 {p : P1} {a : CE} : Sat (evE gcs cl (.p1 p a) false e) Q = Sat (evE gcs cl a false e) fun r e1 => SD (res e1 r) fun x => SP_ (prim1 p x) fun d => Q (.d d) e1 := by
  simp only [evE, tst_f, sat_bind]
  congr 1
  funext r e1
  cases res e1 r with
  | none => rfl
  | some x => exact sat_prOut
theorem x_p2 {p : P2} {a b : CE} : Sat (evE gcs cl (.p2 p a b) false e) Q = Sat (evE gcs cl a false e) fun r e1 => Sat (evE gcs cl b false e1) fun r2 e2 => SD (res e2 r) fun x => SD (res e2 r2) fun y => SP_ (prim2 p x y) fun d => Q (.d d) e2 := by
  simp only [evE, tst_f, sat_bind]
  congr 1
  funext r e1
  congr 1
  funext r2 e2
  cases res e2 r with
  | none => rfl
  | some x =>
    cases res e2 r2 with
    | none => rfl
    | some x => exact sat_prOut
theorem x_isi {a : CE} {t : Ty} : Sat (evE gcs cl (.isi a t) false e) Q = Sat (evE gcs cl a false e) fun r e1 => SD (res e1 r) fun x => Q (.d (.bl (isTy t x))) e1 := by
  simp only [evE, tst_f, sat_bind]
  congr 1
  funext r e1
  cases res e1 r <;> rfl
theorem x_slc {a lo hi : CE} : Sat (evE gcs cl (.slc a lo hi) false e) Q = Sat (evE gcs cl a false e) fun r e1 => Sat (evO gcs cl lo e1) fun l e2 => Sat (evO gcs cl hi e2) fun h e3 => SD (res e3 r) fun x => SP_ (primS x l h) fun d => Q (.d d) e3 := by
  simp only [evE, tst_f, sat_bind]
  congr 1
  funext r e1
  congr 1
  funext l e2
  congr 1
  funext h e3
  cases res e3 r with
  | none => rfl
  | some x => exact sat_prOut
theorem x_noE {QO : Option Int → En → Prop} : Sat (evO gcs cl .noE e) QO = QO none e := tr rfl
/-- an int -/
def SInt (o : Option D) (P : Int → Prop) : Prop := match o with
  | some (.int i) => P i
  | _ => False
theorem sint_some {i : Int} {P : Int → Prop} : SInt (some (.int i)) P = P i := tr rfl
theorem x_so {a : CE} {QO : Option Int → En → Prop} : Sat (evO gcs cl (.so a) e) QO = Sat (evE gcs cl a false e) fun r e1 => SInt (res e1 r) fun i => QO (some i) e1 := by
  simp only [evO, sat_bind]
  congr 1
  funext r e1
  cases res e1 r with
  | none => rfl
  | some x => cases x <;> rfl
theorem x_tup {as : CE} : Sat (evE gcs cl (.tupE as) false e) Q = Sat (evA gcs cl as e) fun rs e1 => SI (resL e1 rs) fun xs => disp xs = true ∧ Q (.d (.tup xs)) e1 := by
  simp only [evE, tst_f, sat_bind]
  congr 1
  funext rs e1
  cases resL e1 rs with
  | none => rfl
  | some xs =>
    dsimp only [SI]
    cases disp xs <;> simp [Sat]
theorem x_lst {as : CE} : Sat (evE gcs cl (.lstE as) false e) Q = Sat (evA gcs cl as e) fun rs e1 => SI (resL e1 rs) fun xs => disp xs = true ∧ Q (.d (.lst true xs)) e1 := by
  simp only [evE, tst_f, sat_bind]
  congr 1
  funext rs e1
  cases resL e1 rs with
  | none => rfl
  | some xs =>
    dsimp only [SI]
    cases disp xs <;> simp [Sat]
theorem x_call {f : Nat} {as : CE} : Sat (evE gcs cl (.call f as) false e) Q = Sat (evA gcs cl as e) fun rs e1 => SI (resL e1 rs) fun xs => disp xs = true ∧ SF (cl f xs) fun d => Q (.d d) e1 := by
  simp only [evE, tst_f, sat_bind]
  congr 1
  funext rs e1
  cases resL e1 rs with
  | none => rfl
  | some xs =>
    dsimp only [SI]
    cases disp xs with
    | false => simp [Sat]
    | true =>
      simp only [if_true, true_and]
      cases cl f xs with
      | none => rfl
      | some r => cases r <;> rfl
theorem x_nil {QA : List R → En → Prop} : Sat (evA gcs cl .nil e) QA = QA [] e := tr rfl
theorem x_cons {a as : CE} {QA : List R → En → Prop} : Sat (evA gcs cl (.cons a as) e) QA = Sat (evE gcs cl a false e) fun r e1 => Sat (evA gcs cl as e1) fun rs e2 => QA (fzR r :: rs) e2 := by
  simp only [evA, sat_bind]
  rfl
theorem resL_nil : resL e [] = some [] := tr rfl
theorem resL_cons {r : R} {rs : List R} : resL e (r :: rs) = (res e r).bind fun x => (resL e rs).map fun xs => x :: xs := by
  show (match res e r, resL e rs with
    | some x, some xs => some (x :: xs)
    | _, _ => none) = _
  cases res e r with
  | none => cases resL e rs <;> rfl
  | some x => cases resL e rs <;> rfl
theorem x_one {a : CE} {t : Bool} : Sat (evE gcs cl (.one a) t e) Q = Sat (evE gcs cl a t e) Q := by simp only [evE]
theorem sb_match {α : Type} {o : Option D} {A B : Out α} {Q : α → En → Prop} : Sat (match o with | some (.bl true) => A | some (.bl false) => B | _ => .bad) Q = SB o fun b => if b then Sat A Q else Sat B Q := by
  cases o with
  | none => rfl
  | some x =>
    cases x with
    | bl b => cases b <;> rfl
    | _ => rfl
theorem x_and {a b : CE} {t : Bool} : Sat (evE gcs cl (.and_ a b) t e) Q = Sat (evE gcs cl a t e) fun r e1 => SB (tv t e1 r) fun k => if k then Sat (evE gcs cl b t e1) Q else Q (.d (.bl false)) e1 := by
  simp only [evE, sat_bind]
  congr 1
  funext r e1
  cases tv t e1 r with
  | none => rfl
  | some x =>
    cases x with
    | bl b => cases b <;> rfl
    | _ => rfl
theorem x_or {a b : CE} {t : Bool} : Sat (evE gcs cl (.or_ a b) t e) Q = Sat (evE gcs cl a t e) fun r e1 => SB (tv t e1 r) fun k => if k then Q (.d (.bl true)) e1 else Sat (evE gcs cl b t e1) Q := by
  simp only [evE, sat_bind]
  congr 1
  funext r e1
  cases tv t e1 r with
  | none => rfl
  | some x =>
    cases x with
    | bl b => cases b <;> rfl
    | _ => rfl
theorem x_not {a : CE} {t : Bool} : Sat (evE gcs cl (.not_ a) t e) Q = Sat (evE gcs cl a t e) fun r e1 => SB (tv t e1 r) fun k => Q (.d (.bl (!k))) e1 := by
  simp only [evE, sat_bind]
  congr 1
  funext r e1
  cases tv t e1 r with
  | none => rfl
  | some x => cases x <;> rfl
theorem x_if {c a b : CE} : Sat (evE gcs cl (.ifE c a b) false e) Q = Sat (evE gcs cl c true e) fun r e1 => SB (tv true e1 r) fun k => if k then Sat (evE gcs cl a false e1) Q else Sat (evE gcs cl b false e1) Q := by
  simp only [evE, Bool.false_eq_true, if_false, sat_bind]
  congr 1
  funext r e1
  cases tv true e1 r with
  | none => rfl
  | some x =>
    cases x with
    | bl b => cases b <;> rfl
    | _ => rfl
/-! tests -/
theorem t_of {c : CE} (h : ∀ e, evE gcs cl c true e = tst true (evE gcs cl c false e)) : Sat (evE gcs cl c true e) Q = Sat (evE gcs cl c false e) fun r e1 => SD (res e1 r) fun x => Q (.d (.bl (truth x))) e1 := by
  rw [h, sat_tst]
theorem t_cst {d : D} : Sat (evE gcs cl (.cst d) true e) Q = Q (.d (.bl (truth d))) e := tr rfl
theorem t_var {i : Nat} : Sat (evE gcs cl (.var i) true e) Q = Sat (evE gcs cl (.var i) false e) fun r e1 => SD (res e1 r) fun x => Q (.d (.bl (truth x))) e1 := t_of fun _ => rfl
theorem t_pk {i : Nat} : Sat (evE gcs cl (.pk i) true e) Q = Sat (evE gcs cl (.pk i) false e) fun r e1 => SD (res e1 r) fun x => Q (.d (.bl (truth x))) e1 := t_of fun _ => rfl
theorem t_p1 {p : P1} {a : CE} : Sat (evE gcs cl (.p1 p a) true e) Q = Sat (evE gcs cl (.p1 p a) false e) fun r e1 => SD (res e1 r) fun x => Q (.d (.bl (truth x))) e1 := t_of fun _ => rfl
theorem t_p2 {p : P2} {a b : CE} : Sat (evE gcs cl (.p2 p a b) true e) Q = Sat (evE gcs cl (.p2 p a b) false e) fun r e1 => SD (res e1 r) fun x => Q (.d (.bl (truth x))) e1 := t_of fun _ => rfl
theorem t_isi {a : CE} {t : Ty} : Sat (evE gcs cl (.isi a t) true e) Q = Sat (evE gcs cl (.isi a t) false e) fun r e1 => SD (res e1 r) fun x => Q (.d (.bl (truth x))) e1 := t_of fun _ => rfl
theorem t_call {f : Nat} {as : CE} : Sat (evE gcs cl (.call f as) true e) Q = Sat (evE gcs cl (.call f as) false e) fun r e1 => SD (res e1 r) fun x => Q (.d (.bl (truth x))) e1 := t_of fun _ => rfl
theorem t_slc {a lo hi : CE} : Sat (evE gcs cl (.slc a lo hi) true e) Q = Sat (evE gcs cl (.slc a lo hi) false e) fun r e1 => SD (res e1 r) fun x => Q (.d (.bl (truth x))) e1 := t_of fun _ => rfl
/-! walks -/
def eno_ (x : D) : Option (List D) := match items x, x with | _, .tup _ => none | o, _ => o
theorem i_val {a : CE} {QI : List D → En → Prop} : Sat (evI gcs cl (.itv a) e) QI = Sat (evE gcs cl a false e) fun r e1 => match r with
    | .d x => SI (items (frz x)) fun xs => QI xs e1
    | .pk _ => False := by
  simp only [evI, sat_bind]
  congr 1
  funext r e1
  cases r with
  | pk i => rfl
  | d x =>
    dsimp only
    generalize items (frz x) = o
    cases o <;> rfl
theorem i_rng1 {a : CE} {QI : List D → En → Prop} : Sat (evI gcs cl (.rng1 a) e) QI = Sat (evE gcs cl a false e) fun r e1 => SInt (res e1 r) fun n => (n < 4611686018427387904 ∧ -4611686018427387904 ≤ n) ∧ QI ((List.range n.toNat).map fun (k : Nat) => D.int k) e1 := by
  simp only [evI, sat_bind]
  congr 1
  funext r e1
  cases res e1 r with
  | none => rfl
  | some x =>
    cases x with
    | int n =>
      dsimp only [SInt]
      exact sat_if
    | _ => rfl
theorem i_rng2 {a b : CE} {QI : List D → En → Prop} : Sat (evI gcs cl (.rng2 a b) e) QI = Sat (evE gcs cl a false e) fun r e1 => Sat (evE gcs cl b false e1) fun r2 e2 => SInt (res e2 r) fun m => SInt (res e2 r2) fun n => (n < 4611686018427387904 ∧ -4611686018427387904 ≤ n ∧ m < 4611686018427387904 ∧ -4611686018427387904 ≤ m) ∧ QI ((List.range (n - m).toNat).map fun (k : Nat) => D.int (m + k)) e2 := by
  simp only [evI, sat_bind]
  congr 1
  funext r e1
  congr 1
  funext r2 e2
  cases res e2 r with
  | none => rfl
  | some x =>
    cases x with
    | int m =>
      cases res e2 r2 with
      | none => rfl
      | some y =>
        cases y with
        | int n =>
          dsimp only [SInt]
          exact sat_if
        | _ => rfl
    | _ => rfl
theorem i_enu {a : CE} {QI : List D → En → Prop} : Sat (evI gcs cl (.enu a) e) QI = Sat (evE gcs cl a false e) fun r e1 => match r with
    | .d x => SI (eno_ (frz x)) fun xs => QI (xs.mapIdx fun k x => D.tup [.int k, x]) e1
    | .pk _ => False := by
  simp only [evI, sat_bind]
  congr 1
  funext r e1
  cases r with
  | pk i => rfl
  | d x =>
    dsimp only [eno_]
    generalize items (frz x) = o
    generalize frz x = y
    cases o <;> cases y <;> rfl
/-! statements -/
/-- a loop's body, kept shut -/
def lp1 (gcs : List D) (cl : Cl) (b : CS) (i : Nat) : D → En → Out Fl := fun x e2 => evS gcs cl b (setS e2 i x)
def lpT (gcs : List D) (cl : Cl) (b : CS) (is : List Nat) : D → En → Out Fl := fun x e2 => match x with
    | .tup ds => if ds.length = is.length then evS gcs cl b (setsS e2 is ds) else .bad
    | _ => .bad
theorem y_skip : Sat (evS gcs cl .skip e) QF = QF .nx e := tr rfl
/-- what follows a statement -/
def thn_ (P : En → Prop) (QF : Fl → En → Prop) : Fl → En → Prop
  | .nx, e => P e
  | f, e => QF f e
theorem thn_nx {P : En → Prop} : thn_ P QF .nx e = P e := tr rfl
theorem thn_rt {P : En → Prop} {d : D} : thn_ P QF (.rt d) e = QF (.rt d) e := tr rfl
theorem thn_bk {P : En → Prop} : thn_ P QF .bk e = QF .bk e := tr rfl
theorem thn_ct {P : En → Prop} : thn_ P QF .ct e = QF .ct e := tr rfl
theorem y_seq {a b : CS} : Sat (evS gcs cl (.seq a b) e) QF = Sat (evS gcs cl a e) (thn_ (fun e1 => Sat (evS gcs cl b e1) QF) QF) := by
  simp only [evS, sat_bind]
  congr 1
  funext f e1
  cases f <;> rfl
theorem y_asg {i : Nat} {a : CE} : Sat (evS gcs cl (.asg i a) e) QF = Sat (evE gcs cl a false e) fun r e1 => match r with
    | .d x => QF .nx (e1.set i (some x))
    | .pk _ => False := by
  simp only [evS, sat_bind]
  congr 1
  funext r e1
  cases r <;> rfl
/-- an owned list -/
def SO_ (o : Option D) (P : List D → Prop) : Prop := match o with
  | some (.lst true xs) => P xs
  | _ => False
theorem so_some {xs : List D} {P : List D → Prop} : SO_ (some (.lst true xs)) P = P xs := tr rfl
theorem y_app {i : Nat} {a : CE} : Sat (evS gcs cl (.app i a) e) QF = SO_ (sl e i) fun _ => Sat (evE gcs cl a false e) fun r e1 => match r with
    | .d x => SO_ (sl e1 i) fun xs => xs.length < lineN ∧ QF .nx (e1.set i (some (.lst true (xs ++ [x]))))
    | .pk _ => False := by
  simp only [evS]
  have key : ∀ (r : R) (e1 : En), Sat (match r, e1[i]? with
      | .d x, some (some (.lst true xs)) => if xs.length < lineN then .ok .nx (setS e1 i (.lst true (xs ++ [x]))) else .bad
      | _, _ => .bad) QF = (match r with
    | .d x => SO_ (sl e1 i) fun xs => xs.length < lineN ∧ QF .nx (e1.set i (some (.lst true (xs ++ [x]))))
    | .pk _ => False) := by
    intro r e1
    cases r with
    | pk j => cases e1[i]? <;> rfl
    | d x =>
      unfold sl
      cases h : e1[i]? with
      | none => rfl
      | some o =>
        cases o with
        | none => rfl
        | some d =>
          cases d with
          | lst b xs =>
            cases b with
            | false => rfl
            | true =>
              dsimp only [Option.join_some, SO_]
              exact sat_if
          | _ => rfl
  unfold sl
  cases h : e[i]? with
  | none => rfl
  | some o =>
    cases o with
    | none => rfl
    | some d =>
      cases d with
      | lst b xs =>
        cases b with
        | false => rfl
        | true =>
          dsimp only [Option.join_some, SO_]
          rw [sat_bind]
          congr 1
          funext r e1
          exact key r e1
      | _ => rfl
theorem y_ex {a : CE} : Sat (evS gcs cl (.ex a) e) QF = Sat (evE gcs cl a false e) fun _ e1 => QF .nx e1 := by
  simp only [evS, sat_bind]; rfl
theorem y_ret {a : CE} : Sat (evS gcs cl (.ret a) e) QF = Sat (evE gcs cl a false e) fun r e1 => match r with
    | .d x => QF (.rt x) e1
    | .pk _ => False := by
  simp only [evS, sat_bind]
  congr 1
  funext r e1
  cases r <;> rfl
theorem y_retN : Sat (evS gcs cl .retN e) QF = QF (.rt .non) e := tr rfl
theorem y_ite {c : CE} {a b : CS} : Sat (evS gcs cl (.ite c a b) e) QF = Sat (evE gcs cl c true e) fun r e1 => SB (tv true e1 r) fun k => if k then Sat (evS gcs cl a e1) QF else Sat (evS gcs cl b e1) QF := by
  simp only [evS, sat_bind]
  congr 1
  funext r e1
  cases tv true e1 r with
  | none => rfl
  | some x =>
    cases x with
    | bl b => cases b <;> rfl
    | _ => rfl
theorem y_for1 {i : Nat} {it : CE} {b : CS} : Sat (evS gcs cl (.for1 i it b) e) QF = Sat (evI gcs cl it e) fun xs e1 => Sat (forL (lp1 gcs cl b i) xs e1) QF := by
  simp only [evS, sat_bind]; rfl
theorem y_forT {is : List Nat} {it : CE} {b : CS} : Sat (evS gcs cl (.forT is it b) e) QF = Sat (evI gcs cl it e) fun xs e1 => Sat (forL (lpT gcs cl b is) xs e1) QF := by
  simp only [evS, sat_bind]; rfl
theorem lp1_eq {b : CS} {i : Nat} {x : D} {e : En} : lp1 gcs cl b i x e = evS gcs cl b (e.set i (some x)) := tr rfl
theorem lpT2_eq {b : CS} {i j : Nat} {x y : D} {e : En} : lpT gcs cl b [i, j] (.tup [x, y]) e = evS gcs cl b ((e.set i (some x)).set j (some y)) := tr rfl
end
/-! the same with shut continuations -/
section
variable {gcs : List D} {cl : Cl} {e : En} {Q : R → En → Prop} {QF : Fl → En → Prop}
@[irreducible] def kN (gcs : List D) (cl : Cl) (b : CS) (QF : Fl → En → Prop) (f : Fl) (e : En) : Prop := thn_ (fun e1 => Sat (evS gcs cl b e1) QF) QF f e
theorem kN_eq {gcs : List D} {cl : Cl} {b : CS} {QF : Fl → En → Prop} {f : Fl} {e : En} : kN gcs cl b QF f e = (thn_ (fun e1 => Sat (evS gcs cl b e1) QF) QF f e) := by rw [kN]
theorem kN_nx {b : CS} : kN gcs cl b QF .nx e = Sat (evS gcs cl b e) QF := by rw [kN]; rfl
theorem kN_rt {b : CS} {d : D} : kN gcs cl b QF (.rt d) e = QF (.rt d) e := by rw [kN]; rfl
theorem kN_bk {b : CS} : kN gcs cl b QF .bk e = QF .bk e := by rw [kN]; rfl
theorem kN_ct {b : CS} : kN gcs cl b QF .ct e = QF .ct e := by rw [kN]; rfl
theorem Xy_skip : Sat (evS gcs cl .skip e) QF = QF .nx e := tr rfl
theorem Xy_seq {a b : CS} : Sat (evS gcs cl (.seq a b) e) QF = Sat (evS gcs cl a e) (kN gcs cl b QF) := by
  rw [y_seq]
  congr 1
  funext f e1
  rw [kN]
def kD (Q : R → En → Prop) (e : En) (d : D) : Prop := Q (.d d) e
theorem kD_eq {Q : R → En → Prop} {e : En} {d : D} : kD Q e d = (Q (.d d) e) := tr rfl
theorem Xx_cst {d : D} : Sat (evE gcs cl (.cst d) false e) Q = Q (.d d) e := tr rfl
theorem Xx_gc {k : Nat} : Sat (evE gcs cl (.gc k) false e) Q = SD (gcs[k]?) (kD Q e) := x_gc
def kV (i : Nat) (Q : R → En → Prop) (e : En) (d : D) : Prop := if own d then Q (.d (frz d)) (e.set i (some (frz d))) else Q (.d d) e
theorem kV_eq {i : Nat} {Q : R → En → Prop} {e : En} {d : D} : kV i Q e d = (if own d then Q (.d (frz d)) (e.set i (some (frz d))) else Q (.d d) e) := tr rfl
theorem Xx_var {i : Nat} : Sat (evE gcs cl (.var i) false e) Q = SD (sl e i) (kV i Q e) := x_var
def kM (i : Nat) (Q : R → En → Prop) (e : En) (d : D) : Prop := Q (.d d) (e.set i none)
theorem kM_eq {i : Nat} {Q : R → En → Prop} {e : En} {d : D} : kM i Q e d = (Q (.d d) (e.set i none)) := tr rfl
theorem Xx_mov {i : Nat} : Sat (evE gcs cl (.mov i) false e) Q = SD (sl e i) (kM i Q e) := x_mov
def kP (i : Nat) (Q : R → En → Prop) (e : En) (d : D) : Prop := Q (.pk i) e
theorem kP_eq {i : Nat} {Q : R → En → Prop} {e : En} {d : D} : kP i Q e d = (Q (.pk i) e) := tr rfl
theorem Xx_pk {i : Nat} : Sat (evE gcs cl (.pk i) false e) Q = SD (sl e i) (kP i Q e) := x_pk
def k1b (p : P1) (Q : R → En → Prop) (e : En) (x : D) : Prop := SP_ (prim1 p x) (kD Q e)
theorem k1b_eq {p : P1} {Q : R → En → Prop} {e : En} {x : D} : k1b p Q e x = (SP_ (prim1 p x) (kD Q e)) := tr rfl
def k1 (p : P1) (Q : R → En → Prop) (r : R) (e : En) : Prop := SD (res e r) (k1b p Q e)
theorem k1_eq {p : P1} {Q : R → En → Prop} {r : R} {e : En} : k1 p Q r e = (SD (res e r) (k1b p Q e)) := tr rfl
theorem Xx_p1 {p : P1} {a : CE} : Sat (evE gcs cl (.p1 p a) false e) Q = Sat (evE gcs cl a false e) (k1 p Q) := x_p1
def k2d (p : P2) (x : D) (Q : R → En → Prop) (e : En) (y : D) : Prop := SP_ (prim2 p x y) (kD Q e)
theorem k2d_eq {p : P2} {x : D} {Q : R → En → Prop} {e : En} {y : D} : k2d p x Q e y = (SP_ (prim2 p x y) (kD Q e)) := tr rfl
def k2c (p : P2) (r2 : R) (Q : R → En → Prop) (e : En) (x : D) : Prop := SD (res e r2) (k2d p x Q e)
theorem k2c_eq {p : P2} {r2 : R} {Q : R → En → Prop} {e : En} {x : D} : k2c p r2 Q e x = (SD (res e r2) (k2d p x Q e)) := tr rfl
def k2b (p : P2) (r : R) (Q : R → En → Prop) (r2 : R) (e : En) : Prop := SD (res e r) (k2c p r2 Q e)
theorem k2b_eq {p : P2} {r : R} {Q : R → En → Prop} {r2 : R} {e : En} : k2b p r Q r2 e = (SD (res e r) (k2c p r2 Q e)) := tr rfl
def k2 (gcs : List D) (cl : Cl) (p : P2) (b : CE) (Q : R → En → Prop) (r : R) (e : En) : Prop := Sat (evE gcs cl b false e) (k2b p r Q)
theorem k2_eq {gcs : List D} {cl : Cl} {p : P2} {b : CE} {Q : R → En → Prop} {r : R} {e : En} : k2 gcs cl p b Q r e = (Sat (evE gcs cl b false e) (k2b p r Q)) := tr rfl
theorem Xx_p2 {p : P2} {a b : CE} : Sat (evE gcs cl (.p2 p a b) false e) Q = Sat (evE gcs cl a false e) (k2 gcs cl p b Q) := x_p2
def kIb (t : Ty) (Q : R → En → Prop) (e : En) (x : D) : Prop := Q (.d (.bl (isTy t x))) e
theorem kIb_eq {t : Ty} {Q : R → En → Prop} {e : En} {x : D} : kIb t Q e x = (Q (.d (.bl (isTy t x))) e) := tr rfl
def kI (t : Ty) (Q : R → En → Prop) (r : R) (e : En) : Prop := SD (res e r) (kIb t Q e)
theorem kI_eq {t : Ty} {Q : R → En → Prop} {r : R} {e : En} : kI t Q r e = (SD (res e r) (kIb t Q e)) := tr rfl
theorem Xx_isi {a : CE} {t : Ty} : Sat (evE gcs cl (.isi a t) false e) Q = Sat (evE gcs cl a false e) (kI t Q) := x_isi
def kSd (l h : Option Int) (Q : R → En → Prop) (e : En) (x : D) : Prop := SP_ (primS x l h) (kD Q e)
theorem kSd_eq {l h : Option Int} {Q : R → En → Prop} {e : En} {x : D} : kSd l h Q e x = (SP_ (primS x l h) (kD Q e)) := tr rfl
def kSc (r : R) (l : Option Int) (Q : R → En → Prop) (h : Option Int) (e : En) : Prop := SD (res e r) (kSd l h Q e)
theorem kSc_eq {r : R} {l : Option Int} {Q : R → En → Prop} {h : Option Int} {e : En} : kSc r l Q h e = (SD (res e r) (kSd l h Q e)) := tr rfl
def kSb (gcs : List D) (cl : Cl) (hi : CE) (r : R) (Q : R → En → Prop) (l : Option Int) (e : En) : Prop := Sat (evO gcs cl hi e) (kSc r l Q)
theorem kSb_eq {gcs : List D} {cl : Cl} {hi : CE} {r : R} {Q : R → En → Prop} {l : Option Int} {e : En} : kSb gcs cl hi r Q l e = (Sat (evO gcs cl hi e) (kSc r l Q)) := tr rfl
def kS (gcs : List D) (cl : Cl) (lo hi : CE) (Q : R → En → Prop) (r : R) (e : En) : Prop := Sat (evO gcs cl lo e) (kSb gcs cl hi r Q)
theorem kS_eq {gcs : List D} {cl : Cl} {lo hi : CE} {Q : R → En → Prop} {r : R} {e : En} : kS gcs cl lo hi Q r e = (Sat (evO gcs cl lo e) (kSb gcs cl hi r Q)) := tr rfl
theorem Xx_slc {a lo hi : CE} : Sat (evE gcs cl (.slc a lo hi) false e) Q = Sat (evE gcs cl a false e) (kS gcs cl lo hi Q) := x_slc
theorem Xx_noE {QO : Option Int → En → Prop} : Sat (evO gcs cl .noE e) QO = QO none e := tr rfl
def kOb (QO : Option Int → En → Prop) (e : En) (i : Int) : Prop := QO (some i) e
theorem kOb_eq {QO : Option Int → En → Prop} {e : En} {i : Int} : kOb QO e i = (QO (some i) e) := tr rfl
def kO (QO : Option Int → En → Prop) (r : R) (e : En) : Prop := SInt (res e r) (kOb QO e)
theorem kO_eq {QO : Option Int → En → Prop} {r : R} {e : En} : kO QO r e = (SInt (res e r) (kOb QO e)) := tr rfl
theorem Xx_so {a : CE} {QO : Option Int → En → Prop} : Sat (evO gcs cl (.so a) e) QO = Sat (evE gcs cl a false e) (kO QO) := x_so
def kTb (Q : R → En → Prop) (e : En) (xs : List D) : Prop := disp xs = true ∧ Q (.d (.tup xs)) e
theorem kTb_eq {Q : R → En → Prop} {e : En} {xs : List D} : kTb Q e xs = (disp xs = true ∧ Q (.d (.tup xs)) e) := tr rfl
def kT (Q : R → En → Prop) (rs : List R) (e : En) : Prop := SI (resL e rs) (kTb Q e)
theorem kT_eq {Q : R → En → Prop} {rs : List R} {e : En} : kT Q rs e = (SI (resL e rs) (kTb Q e)) := tr rfl
theorem Xx_tup {as : CE} : Sat (evE gcs cl (.tupE as) false e) Q = Sat (evA gcs cl as e) (kT Q) := x_tup
def kLb (Q : R → En → Prop) (e : En) (xs : List D) : Prop := disp xs = true ∧ Q (.d (.lst true xs)) e
theorem kLb_eq {Q : R → En → Prop} {e : En} {xs : List D} : kLb Q e xs = (disp xs = true ∧ Q (.d (.lst true xs)) e) := tr rfl
def kL (Q : R → En → Prop) (rs : List R) (e : En) : Prop := SI (resL e rs) (kLb Q e)
theorem kL_eq {Q : R → En → Prop} {rs : List R} {e : En} : kL Q rs e = (SI (resL e rs) (kLb Q e)) := tr rfl
theorem Xx_lst {as : CE} : Sat (evE gcs cl (.lstE as) false e) Q = Sat (evA gcs cl as e) (kL Q) := x_lst
def kCb (cl : Cl) (f : Nat) (Q : R → En → Prop) (e : En) (xs : List D) : Prop := disp xs = true ∧ SF (cl f xs) (kD Q e)
theorem kCb_eq {cl : Cl} {f : Nat} {Q : R → En → Prop} {e : En} {xs : List D} : kCb cl f Q e xs = (disp xs = true ∧ SF (cl f xs) (kD Q e)) := tr rfl
def kC (cl : Cl) (f : Nat) (Q : R → En → Prop) (rs : List R) (e : En) : Prop := SI (resL e rs) (kCb cl f Q e)
theorem kC_eq {cl : Cl} {f : Nat} {Q : R → En → Prop} {rs : List R} {e : En} : kC cl f Q rs e = (SI (resL e rs) (kCb cl f Q e)) := tr rfl
theorem Xx_call {f : Nat} {as : CE} : Sat (evE gcs cl (.call f as) false e) Q = Sat (evA gcs cl as e) (kC cl f Q) := x_call
theorem Xx_nil {QA : List R → En → Prop} : Sat (evA gcs cl .nil e) QA = QA [] e := tr rfl
def kAb (r : R) (QA : List R → En → Prop) (rs : List R) (e : En) : Prop := QA (fzR r :: rs) e
theorem kAb_eq {r : R} {QA : List R → En → Prop} {rs : List R} {e : En} : kAb r QA rs e = (QA (fzR r :: rs) e) := tr rfl
def kA (gcs : List D) (cl : Cl) (as : CE) (QA : List R → En → Prop) (r : R) (e : En) : Prop := Sat (evA gcs cl as e) (kAb r QA)
theorem kA_eq {gcs : List D} {cl : Cl} {as : CE} {QA : List R → En → Prop} {r : R} {e : En} : kA gcs cl as QA r e = (Sat (evA gcs cl as e) (kAb r QA)) := tr rfl
theorem Xx_cons {a as : CE} {QA : List R → En → Prop} : Sat (evA gcs cl (.cons a as) e) QA = Sat (evE gcs cl a false e) (kA gcs cl as QA) := x_cons
theorem Xx_one {a : CE} {t : Bool} : Sat (evE gcs cl (.one a) t e) Q = Sat (evE gcs cl a t e) Q := x_one
def kAnb (gcs : List D) (cl : Cl) (b : CE) (t : Bool) (Q : R → En → Prop) (e : En) (k : Bool) : Prop := if k then Sat (evE gcs cl b t e) Q else Q (.d (.bl false)) e
theorem kAnb_eq {gcs : List D} {cl : Cl} {b : CE} {t : Bool} {Q : R → En → Prop} {e : En} {k : Bool} : kAnb gcs cl b t Q e k = (if k then Sat (evE gcs cl b t e) Q else Q (.d (.bl false)) e) := tr rfl
def kAn (gcs : List D) (cl : Cl) (b : CE) (t : Bool) (Q : R → En → Prop) (r : R) (e : En) : Prop := SB (tv t e r) (kAnb gcs cl b t Q e)
theorem kAn_eq {gcs : List D} {cl : Cl} {b : CE} {t : Bool} {Q : R → En → Prop} {r : R} {e : En} : kAn gcs cl b t Q r e = (SB (tv t e r) (kAnb gcs cl b t Q e)) := tr rfl
theorem Xx_and {a b : CE} {t : Bool} : Sat (evE gcs cl (.and_ a b) t e) Q = Sat (evE gcs cl a t e) (kAn gcs cl b t Q) := x_and
def kOrb (gcs : List D) (cl : Cl) (b : CE) (t : Bool) (Q : R → En → Prop) (e : En) (k : Bool) : Prop := if k then Q (.d (.bl true)) e else Sat (evE gcs cl b t e) Q
theorem kOrb_eq {gcs : List D} {cl : Cl} {b : CE} {t : Bool} {Q : R → En → Prop} {e : En} {k : Bool} : kOrb gcs cl b t Q e k = (if k then Q (.d (.bl true)) e else Sat (evE gcs cl b t e) Q) := tr rfl
def kOr (gcs : List D) (cl : Cl) (b : CE) (t : Bool) (Q : R → En → Prop) (r : R) (e : En) : Prop := SB (tv t e r) (kOrb gcs cl b t Q e)
theorem kOr_eq {gcs : List D} {cl : Cl} {b : CE} {t : Bool} {Q : R → En → Prop} {r : R} {e : En} : kOr gcs cl b t Q r e = (SB (tv t e r) (kOrb gcs cl b t Q e)) := tr rfl
theorem Xx_or {a b : CE} {t : Bool} : Sat (evE gcs cl (.or_ a b) t e) Q = Sat (evE gcs cl a t e) (kOr gcs cl b t Q) := x_or
def kNob (Q : R → En → Prop) (e : En) (k : Bool) : Prop := Q (.d (.bl (!k))) e
theorem kNob_eq {Q : R → En → Prop} {e : En} {k : Bool} : kNob Q e k = (Q (.d (.bl (!k))) e) := tr rfl
def kNo (t : Bool) (Q : R → En → Prop) (r : R) (e : En) : Prop := SB (tv t e r) (kNob Q e)
theorem kNo_eq {t : Bool} {Q : R → En → Prop} {r : R} {e : En} : kNo t Q r e = (SB (tv t e r) (kNob Q e)) := tr rfl
theorem Xx_not {a : CE} {t : Bool} : Sat (evE gcs cl (.not_ a) t e) Q = Sat (evE gcs cl a t e) (kNo t Q) := x_not
def kIfb (gcs : List D) (cl : Cl) (a b : CE) (Q : R → En → Prop) (e : En) (k : Bool) : Prop := if k then Sat (evE gcs cl a false e) Q else Sat (evE gcs cl b false e) Q
theorem kIfb_eq {gcs : List D} {cl : Cl} {a b : CE} {Q : R → En → Prop} {e : En} {k : Bool} : kIfb gcs cl a b Q e k = (if k then Sat (evE gcs cl a false e) Q else Sat (evE gcs cl b false e) Q) := tr rfl
def kIf (gcs : List D) (cl : Cl) (a b : CE) (Q : R → En → Prop) (r : R) (e : En) : Prop := SB (tv true e r) (kIfb gcs cl a b Q e)
theorem kIf_eq {gcs : List D} {cl : Cl} {a b : CE} {Q : R → En → Prop} {r : R} {e : En} : kIf gcs cl a b Q r e = (SB (tv true e r) (kIfb gcs cl a b Q e)) := tr rfl
theorem Xx_if {c a b : CE} : Sat (evE gcs cl (.ifE c a b) false e) Q = Sat (evE gcs cl c true e) (kIf gcs cl a b Q) := x_if
def kTrb (Q : R → En → Prop) (e : En) (x : D) : Prop := Q (.d (.bl (truth x))) e
theorem kTrb_eq {Q : R → En → Prop} {e : En} {x : D} : kTrb Q e x = (Q (.d (.bl (truth x))) e) := tr rfl
def kTr (Q : R → En → Prop) (r : R) (e : En) : Prop := SD (res e r) (kTrb Q e)
theorem kTr_eq {Q : R → En → Prop} {r : R} {e : En} : kTr Q r e = (SD (res e r) (kTrb Q e)) := tr rfl
theorem Xt_cst {d : D} : Sat (evE gcs cl (.cst d) true e) Q = Q (.d (.bl (truth d))) e := tr rfl
theorem Xt_var {i : Nat} : Sat (evE gcs cl (.var i) true e) Q = Sat (evE gcs cl (.var i) false e) (kTr Q) := t_var
theorem Xt_pk {i : Nat} : Sat (evE gcs cl (.pk i) true e) Q = Sat (evE gcs cl (.pk i) false e) (kTr Q) := t_pk
theorem Xt_p1 {p : P1} {a : CE} : Sat (evE gcs cl (.p1 p a) true e) Q = Sat (evE gcs cl (.p1 p a) false e) (kTr Q) := t_p1
theorem Xt_p2 {p : P2} {a b : CE} : Sat (evE gcs cl (.p2 p a b) true e) Q = Sat (evE gcs cl (.p2 p a b) false e) (kTr Q) := t_p2
theorem Xt_isi {a : CE} {t : Ty} : Sat (evE gcs cl (.isi a t) true e) Q = Sat (evE gcs cl (.isi a t) false e) (kTr Q) := t_isi
theorem Xt_call {f : Nat} {as : CE} : Sat (evE gcs cl (.call f as) true e) Q = Sat (evE gcs cl (.call f as) false e) (kTr Q) := t_call
theorem Xt_slc {a lo hi : CE} : Sat (evE gcs cl (.slc a lo hi) true e) Q = Sat (evE gcs cl (.slc a lo hi) false e) (kTr Q) := t_slc
def kE (QI : List D → En → Prop) (e : En) (xs : List D) : Prop := QI xs e
theorem kE_eq {QI : List D → En → Prop} {e : En} {xs : List D} : kE QI e xs = (QI xs e) := tr rfl
def kIv (QI : List D → En → Prop) (r : R) (e : En) : Prop := match r with | .d x => SI (items (frz x)) (kE QI e) | .pk _ => False
theorem kIv_eq {QI : List D → En → Prop} {r : R} {e : En} : kIv QI r e = (match r with | .d x => SI (items (frz x)) (kE QI e) | .pk _ => False) := tr rfl
theorem kIv_d {QI : List D → En → Prop} {x : D} : kIv QI (.d x) e = SI (items (frz x)) (kE QI e) := tr rfl
theorem Xi_val {a : CE} {QI : List D → En → Prop} : Sat (evI gcs cl (.itv a) e) QI = Sat (evE gcs cl a false e) (kIv QI) := i_val
def kRb (QI : List D → En → Prop) (e : En) (n : Int) : Prop := (n < 4611686018427387904 ∧ -4611686018427387904 ≤ n) ∧ QI ((List.range n.toNat).map fun (k : Nat) => D.int k) e
theorem kRb_eq {QI : List D → En → Prop} {e : En} {n : Int} : kRb QI e n = ((n < 4611686018427387904 ∧ -4611686018427387904 ≤ n) ∧ QI ((List.range n.toNat).map fun (k : Nat) => D.int k) e) := tr rfl
def kR (QI : List D → En → Prop) (r : R) (e : En) : Prop := SInt (res e r) (kRb QI e)
theorem kR_eq {QI : List D → En → Prop} {r : R} {e : En} : kR QI r e = (SInt (res e r) (kRb QI e)) := tr rfl
theorem Xi_rng1 {a : CE} {QI : List D → En → Prop} : Sat (evI gcs cl (.rng1 a) e) QI = Sat (evE gcs cl a false e) (kR QI) := i_rng1
def kEn (QI : List D → En → Prop) (r : R) (e : En) : Prop := match r with | .d x => SI (eno_ (frz x)) (fun xs => QI (xs.mapIdx fun k x => D.tup [.int k, x]) e) | .pk _ => False
theorem kEn_eq {QI : List D → En → Prop} {r : R} {e : En} : kEn QI r e = (match r with | .d x => SI (eno_ (frz x)) (fun xs => QI (xs.mapIdx fun k x => D.tup [.int k, x]) e) | .pk _ => False) := tr rfl
def kEnb (QI : List D → En → Prop) (e : En) (xs : List D) : Prop := QI (xs.mapIdx fun k x => D.tup [.int k, x]) e
theorem kEnb_eq {QI : List D → En → Prop} {e : En} {xs : List D} : kEnb QI e xs = (QI (xs.mapIdx fun k x => D.tup [.int k, x]) e) := tr rfl
theorem kEn_d {QI : List D → En → Prop} {x : D} : kEn QI (.d x) e = SI (eno_ (frz x)) (kEnb QI e) := tr rfl
theorem Xi_enu {a : CE} {QI : List D → En → Prop} : Sat (evI gcs cl (.enu a) e) QI = Sat (evE gcs cl a false e) (kEn QI) := i_enu
def kAs (i : Nat) (QF : Fl → En → Prop) (r : R) (e : En) : Prop := match r with | .d x => QF .nx (e.set i (some x)) | .pk _ => False
theorem kAs_eq {i : Nat} {QF : Fl → En → Prop} {r : R} {e : En} : kAs i QF r e = (match r with | .d x => QF .nx (e.set i (some x)) | .pk _ => False) := tr rfl
theorem kAs_d {i : Nat} {x : D} : kAs i QF (.d x) e = QF .nx (e.set i (some x)) := tr rfl
theorem Xy_asg {i : Nat} {a : CE} : Sat (evS gcs cl (.asg i a) e) QF = Sat (evE gcs cl a false e) (kAs i QF) := y_asg
def kApc (i : Nat) (x : D) (QF : Fl → En → Prop) (e : En) (xs : List D) : Prop := xs.length < lineN ∧ QF .nx (e.set i (some (.lst true (xs ++ [x]))))
theorem kApc_eq {i : Nat} {x : D} {QF : Fl → En → Prop} {e : En} {xs : List D} : kApc i x QF e xs = (xs.length < lineN ∧ QF .nx (e.set i (some (.lst true (xs ++ [x]))))) := tr rfl
def kApb (i : Nat) (QF : Fl → En → Prop) (r : R) (e : En) : Prop := match r with | .d x => SO_ (sl e i) (kApc i x QF e) | .pk _ => False
theorem kApb_eq {i : Nat} {QF : Fl → En → Prop} {r : R} {e : En} : kApb i QF r e = (match r with | .d x => SO_ (sl e i) (kApc i x QF e) | .pk _ => False) := tr rfl
theorem kApb_d {i : Nat} {x : D} : kApb i QF (.d x) e = SO_ (sl e i) (kApc i x QF e) := tr rfl
def kAp (gcs : List D) (cl : Cl) (i : Nat) (a : CE) (QF : Fl → En → Prop) (e : En) (xs : List D) : Prop := Sat (evE gcs cl a false e) (kApb i QF)
theorem kAp_eq {gcs : List D} {cl : Cl} {i : Nat} {a : CE} {QF : Fl → En → Prop} {e : En} {xs : List D} : kAp gcs cl i a QF e xs = (Sat (evE gcs cl a false e) (kApb i QF)) := tr rfl
theorem Xy_app {i : Nat} {a : CE} : Sat (evS gcs cl (.app i a) e) QF = SO_ (sl e i) (kAp gcs cl i a QF e) := y_app
def kX (QF : Fl → En → Prop) (r : R) (e : En) : Prop := QF .nx e
theorem kX_eq {QF : Fl → En → Prop} {r : R} {e : En} : kX QF r e = (QF .nx e) := tr rfl
theorem Xy_ex {a : CE} : Sat (evS gcs cl (.ex a) e) QF = Sat (evE gcs cl a false e) (kX QF) := y_ex
def kRt (QF : Fl → En → Prop) (r : R) (e : En) : Prop := match r with | .d x => QF (.rt x) e | .pk _ => False
theorem kRt_eq {QF : Fl → En → Prop} {r : R} {e : En} : kRt QF r e = (match r with | .d x => QF (.rt x) e | .pk _ => False) := tr rfl
theorem kRt_d {x : D} : kRt QF (.d x) e = QF (.rt x) e := tr rfl
theorem Xy_ret {a : CE} : Sat (evS gcs cl (.ret a) e) QF = Sat (evE gcs cl a false e) (kRt QF) := y_ret
theorem Xy_retN : Sat (evS gcs cl .retN e) QF = QF (.rt .non) e := tr rfl
def kItb (gcs : List D) (cl : Cl) (a b : CS) (QF : Fl → En → Prop) (e : En) (k : Bool) : Prop := if k then Sat (evS gcs cl a e) QF else Sat (evS gcs cl b e) QF
theorem kItb_eq {gcs : List D} {cl : Cl} {a b : CS} {QF : Fl → En → Prop} {e : En} {k : Bool} : kItb gcs cl a b QF e k = (if k then Sat (evS gcs cl a e) QF else Sat (evS gcs cl b e) QF) := tr rfl
def kIt (gcs : List D) (cl : Cl) (a b : CS) (QF : Fl → En → Prop) (r : R) (e : En) : Prop := SB (tv true e r) (kItb gcs cl a b QF e)
theorem kIt_eq {gcs : List D} {cl : Cl} {a b : CS} {QF : Fl → En → Prop} {r : R} {e : En} : kIt gcs cl a b QF r e = (SB (tv true e r) (kItb gcs cl a b QF e)) := tr rfl
theorem Xy_ite {c : CE} {a b : CS} : Sat (evS gcs cl (.ite c a b) e) QF = Sat (evE gcs cl c true e) (kIt gcs cl a b QF) := y_ite
def kF (gcs : List D) (cl : Cl) (i : Nat) (b : CS) (QF : Fl → En → Prop) (xs : List D) (e : En) : Prop := Sat (forL (lp1 gcs cl b i) xs e) QF
theorem kF_eq {gcs : List D} {cl : Cl} {i : Nat} {b : CS} {QF : Fl → En → Prop} {xs : List D} {e : En} : kF gcs cl i b QF xs e = (Sat (forL (lp1 gcs cl b i) xs e) QF) := tr rfl
theorem Xy_for1 {i : Nat} {it : CE} {b : CS} : Sat (evS gcs cl (.for1 i it b) e) QF = Sat (evI gcs cl it e) (kF gcs cl i b QF) := y_for1
def kFT (gcs : List D) (cl : Cl) (is : List Nat) (b : CS) (QF : Fl → En → Prop) (xs : List D) (e : En) : Prop := Sat (forL (lpT gcs cl b is) xs e) QF
theorem kFT_eq {gcs : List D} {cl : Cl} {is : List Nat} {b : CS} {QF : Fl → En → Prop} {xs : List D} {e : En} : kFT gcs cl is b QF xs e = (Sat (forL (lpT gcs cl b is) xs e) QF) := tr rfl
theorem Xy_forT {is : List Nat} {it : CE} {b : CS} : Sat (evS gcs cl (.forT is it b) e) QF = Sat (evI gcs cl it e) (kFT gcs cl is b QF) := y_forT
def kR2d (QI : List D → En → Prop) (m : Int) (e : En) (n : Int) : Prop := (n < 4611686018427387904 ∧ -4611686018427387904 ≤ n ∧ m < 4611686018427387904 ∧ -4611686018427387904 ≤ m) ∧ QI ((List.range (n - m).toNat).map fun (k : Nat) => D.int (m + k)) e
theorem kR2d_eq {QI : List D → En → Prop} {m n : Int} : kR2d QI m e n = ((n < 4611686018427387904 ∧ -4611686018427387904 ≤ n ∧ m < 4611686018427387904 ∧ -4611686018427387904 ≤ m) ∧ QI ((List.range (n - m).toNat).map fun (k : Nat) => D.int (m + k)) e) := tr rfl
def kR2c (QI : List D → En → Prop) (r2 : R) (e : En) (m : Int) : Prop := SInt (res e r2) (kR2d QI m e)
theorem kR2c_eq {QI : List D → En → Prop} {r2 : R} {m : Int} : kR2c QI r2 e m = SInt (res e r2) (kR2d QI m e) := tr rfl
def kR2b (QI : List D → En → Prop) (r : R) (r2 : R) (e : En) : Prop := SInt (res e r) (kR2c QI r2 e)
theorem kR2b_eq {QI : List D → En → Prop} {r r2 : R} : kR2b QI r r2 e = SInt (res e r) (kR2c QI r2 e) := tr rfl
def kR2 (gcs : List D) (cl : Cl) (QI : List D → En → Prop) (b : CE) (r : R) (e : En) : Prop := Sat (evE gcs cl b false e) (kR2b QI r)
theorem kR2_eq {QI : List D → En → Prop} {b : CE} {r : R} : kR2 gcs cl QI b r e = Sat (evE gcs cl b false e) (kR2b QI r) := tr rfl
theorem Xi_rng2 {a b : CE} {QI : List D → En → Prop} : Sat (evI gcs cl (.rng2 a b) e) QI = Sat (evE gcs cl a false e) (kR2 gcs cl QI b) := i_rng2
theorem line_le {n : Nat} (h : n ≤ 10000000) : n ≤ lineN := Nat.le_trans h (by unfold lineN; decide)
theorem line_lt {n : Nat} (h : n < 10000000) : n < lineN := Nat.lt_of_lt_of_le h (by unfold lineN; decide)
end
/-! comprehensions -/
section
variable {gcs : List D} {cl : Cl} {e : En} {Q : R → En → Prop}
/-- one turn -/
def lcB (gcs : List D) (cl : Cl) (is : List Nat) (tup q : Bool) (c a : CE) (x : D) (e2 : En) : Out (Option D) := match bindT is tup x e2 with
      | none => .bad
      | some e3 => (if q then (evE gcs cl c true e3).bind fun r e4 => (match tv true e4 r with
          | some (.bl b) => .ok b e4
          | _ => .bad) else .ok true e3).bind fun b e4 => if b then (evE gcs cl a false e4).bind fun r e5 => match r with
            | .d y => .ok (some (frz y)) (wipeE e5 is)
            | .pk _ => .bad
          else .ok none (wipeE e4 is)
def kLcR (Q : R → En → Prop) (ys : List D) (e : En) : Prop := Q (.d (.lst true ys)) e
theorem kLcR_eq {ys : List D} : kLcR Q ys e = Q (.d (.lst true ys)) e := tr rfl
def kLc (gcs : List D) (cl : Cl) (is : List Nat) (tup q : Bool) (c a : CE) (Q : R → En → Prop) (xs : List D) (e : En) : Prop := Sat (compL (lcB gcs cl is tup q c a) xs (wipeE e is) []) (kLcR Q)
theorem kLc_eq {is : List Nat} {tup q : Bool} {c a : CE} {xs : List D} : kLc gcs cl is tup q c a Q xs e = Sat (compL (lcB gcs cl is tup q c a) xs (wipeE e is) []) (kLcR Q) := tr rfl
theorem Xx_lc {is : List Nat} {tup q : Bool} {it c a : CE} : Sat (evE gcs cl (.lc is tup q it c a) false e) Q = Sat (evI gcs cl it e) (kLc gcs cl is tup q c a Q) := by
  simp only [evE, tst_f, sat_bind]
  rfl
theorem Xt_lc {is : List Nat} {tup q : Bool} {it c a : CE} : Sat (evE gcs cl (.lc is tup q it c a) true e) Q = Sat (evE gcs cl (.lc is tup q it c a) false e) (kTr Q) := t_of fun _ => by simp only [evE, tst_f]
def kLe (is : List Nat) (QO : Option D → En → Prop) (r : R) (e : En) : Prop := match r with
  | .d y => QO (some (frz y)) (wipeE e is)
  | .pk _ => False
theorem kLe_d {is : List Nat} {QO : Option D → En → Prop} {y : D} : kLe is QO (.d y) e = QO (some (frz y)) (wipeE e is) := tr rfl
def kLqb (gcs : List D) (cl : Cl) (is : List Nat) (a : CE) (QO : Option D → En → Prop) (e : En) (b : Bool) : Prop := if b then Sat (evE gcs cl a false e) (kLe is QO) else QO none (wipeE e is)
theorem kLqb_eq {is : List Nat} {a : CE} {QO : Option D → En → Prop} {b : Bool} : kLqb gcs cl is a QO e b = (if b then Sat (evE gcs cl a false e) (kLe is QO) else QO none (wipeE e is)) := tr rfl
def kLq (gcs : List D) (cl : Cl) (is : List Nat) (a : CE) (QO : Option D → En → Prop) (r : R) (e : En) : Prop := SB (tv true e r) (kLqb gcs cl is a QO e)
theorem kLq_eq {is : List Nat} {a : CE} {QO : Option D → En → Prop} {r : R} : kLq gcs cl is a QO r e = SB (tv true e r) (kLqb gcs cl is a QO e) := tr rfl
theorem lc_turn {is : List Nat} {tup : Bool} {a : CE} {x : D} {c : CE} {QO : Option D → En → Prop} {e3 : En} (hb : bindT is tup x e = some e3) : Sat (lcB gcs cl is tup true c a x e) QO = Sat (evE gcs cl c true e3) (kLq gcs cl is a QO) := by
  unfold lcB
  rw [hb]
  dsimp only
  simp only [if_true, sat_bind]
  congr 1
  funext r e4
  show Sat (match tv true e4 r with
          | some (.bl b) => .ok b e4
          | _ => .bad) _ = SB (tv true e4 r) (kLqb gcs cl is a QO e4)
  have key : ∀ b e4, Sat (if b = true then (evE gcs cl a false e4).bind fun r e5 => match r with
            | .d y => (.ok (some (frz y)) (wipeE e5 is) : Out (Option D))
            | .pk _ => .bad
          else .ok none (wipeE e4 is)) QO = kLqb gcs cl is a QO e4 b := by
    intro b e4
    unfold kLqb
    cases b with
    | false => rfl
    | true =>
      simp only [if_true, sat_bind]
      congr 1
      funext r e5
      cases r <;> rfl
  cases tv true e4 r with
  | none => rfl
  | some y =>
    cases y with
    | bl b => exact key b e4
    | _ => rfl
theorem lc_turn0 {is : List Nat} {tup : Bool} {a : CE} {x : D} {c : CE} {QO : Option D → En → Prop} {e3 : En} (hb : bindT is tup x e = some e3) : Sat (lcB gcs cl is tup false c a x e) QO = Sat (evE gcs cl a false e3) (kLe is QO) := by
  unfold lcB
  rw [hb]
  dsimp only
  simp only [Bool.false_eq_true, if_false, sat_bind, sat_ok, if_true]
  congr 1
  funext r e5
  cases r <;> rfl
theorem lc_1 {i : Nat} {a c : CE} {x : D} {QO : Option D → En → Prop} : Sat (lcB gcs cl [i] false true c a x e) QO = Sat (evE gcs cl c true (e.set i (some x))) (kLq gcs cl [i] a QO) := lc_turn rfl
theorem lc_10 {i : Nat} {a c : CE} {x : D} {QO : Option D → En → Prop} : Sat (lcB gcs cl [i] false false c a x e) QO = Sat (evE gcs cl a false (e.set i (some x))) (kLe [i] QO) := lc_turn0 rfl
theorem lc_2 {i j : Nat} {a c : CE} {x y : D} {QO : Option D → En → Prop} : Sat (lcB gcs cl [i, j] true true c a (.tup [x, y]) e) QO = Sat (evE gcs cl c true ((e.set i (some x)).set j (some y))) (kLq gcs cl [i, j] a QO) := lc_turn rfl
theorem lc_20 {i j : Nat} {a c : CE} {x y : D} {QO : Option D → En → Prop} : Sat (lcB gcs cl [i, j] true false c a (.tup [x, y]) e) QO = Sat (evE gcs cl a false ((e.set i (some x)).set j (some y))) (kLe [i, j] QO) := lc_turn0 rfl
theorem wipe_0 : wipeE e [] = e := tr rfl
theorem wipe_s {v : Nat} {vs : List Nat} : wipeE e (v :: vs) = (wipeE e vs).set v none := tr rfl
theorem comp_get {body : D → En → Out (Option D)} {g : D → Option D} {e : En} : ∀ (xs acc : List D), (∀ x ∈ xs, Sat (body x e) fun o e1 => o = g x ∧ e1 = e) → acc.length + xs.length ≤ 10000000 → compL body xs e acc = .ok (acc ++ xs.filterMap g) e
  | [], acc, _, _ => by simp [compL]
  | x :: xs, acc, h, hl => by
    obtain ⟨o, e1, h1, h2, h3⟩ := (h x (List.mem_cons_self ..)).get
    subst h2 h3
    have ih := fun acc => comp_get (g := g) xs acc (fun y hy => h y (List.mem_cons_of_mem _ hy))
    simp only [compL, h1, Out.bind]
    rw [List.length_cons] at hl
    cases q : g x with
    | none =>
      rw [ih acc (by omega), List.filterMap_cons, q]
    | some y =>
      dsimp only
      rw [if_pos (line_lt (by omega)), ih (acc ++ [y]) (by simp; omega), List.filterMap_cons, q]
      simp
/-- a comprehension whose turns each give g -/
theorem comp_sat {body : D → En → Out (Option D)} (g : D → Option D) {e : En} {xs : List D} {Q : List D → En → Prop} (h : ∀ x ∈ xs, Sat (body x e) fun o e1 => o = g x ∧ e1 = e) (hl : xs.length ≤ 10000000) (hq : Q (xs.filterMap g) e) : Sat (compL body xs e []) Q := by
  rw [comp_get xs [] h (by simpa using hl)]
  exact hq
end
/-! the primitives' equations -/
section
variable {i j : Int} {s t : List Nat} {o o' b b' : Bool} {xs ys : List D} {x y : D} {c : Nat}
theorem q_neg : prim1 .neg (.int i) = some (.val (.int (-i))) := tr rfl
theorem q_len_s : prim1 .len (.str s) = some (.val (.int s.length)) := tr rfl
theorem q_len_l : prim1 .len (.lst o xs) = some (.val (.int xs.length)) := tr rfl
theorem q_len_t : prim1 .len (.tup xs) = some (.val (.int xs.length)) := tr rfl
theorem q_int : prim1 .int (.int i) = some (.val (.int i)) := tr rfl
theorem q_int_0 : prim1 .int (.str [48]) = some (.val (.int 0)) := by
  have h : PySem.intText? ⟨[48].toArray⟩ = some 0 := by decide +kernel
  simp only [prim1, h]
  rfl
theorem q_int_1 : prim1 .int (.str [49]) = some (.val (.int 1)) := by
  have h : PySem.intText? ⟨[49].toArray⟩ = some 1 := by decide +kernel
  simp only [prim1, h]
  rfl
theorem q_int_b : prim1 .int (.bl b) = some (.val (.int (if b then 1 else 0))) := tr rfl
theorem q_join {l : List (List Nat)} (h1 : l.length ≤ 10000) (h2 : ∀ x ∈ l, x.length ≤ 1000) : prim1 .join (.lst o (l.map D.str)) = some (.val (.str l.flatten)) := by
  have e : ∀ l : List (List Nat), strL (l.map D.str) = some l := by
    intro l
    induction l with
    | nil => rfl
    | cons x l ih => simp [strL, ih]
  simp only [prim1, e]
  rw [if_pos ⟨h1, h2⟩]
theorem toPs_strs : ∀ (l : List (List Nat)), toPs (l.map D.str) = l.map fun s => PyData.str ⟨s.toArray⟩
  | [] => rfl
  | x :: l => by rw [List.map_cons, List.map_cons, toPs, toPs_strs l, toP]
theorem eqv_strs : ∀ (l m : List (List Nat)), PyData.eqvAll (l.map fun s => PyData.str ⟨s.toArray⟩) (m.map fun s => PyData.str ⟨s.toArray⟩) = decide (l = m)
  | [], [] => by simp [PyData.eqvAll]
  | x :: l, y :: m => by
    rw [List.map_cons, List.map_cons, PyData.eqvAll, eqv_strs l m, PyData.eqv]
    have : ((⟨x.toArray⟩ : Str) == ⟨y.toArray⟩) = decide (x = y) := by
      rw [Bool.beq_eq_decide_eq]
      simp
    rw [this]
    simp [Bool.decide_and]
  | [], _ :: _ => by simp [PyData.eqvAll]
  | _ :: _, [] => by simp [PyData.eqvAll]
def Cp (s : List Nat) : Prop := ∀ c ∈ s, c < 1114112
theorem shape_strs (l : List (List Nat)) (h : ∀ s ∈ l, Cp s) : SeqAt.shaped (.list (l.map fun s => PyData.str ⟨s.toArray⟩)) = true := by
  unfold SeqAt.shaped
  have h1 : ∀ l : List (List Nat), (∀ s ∈ l, Cp s) → PyData.canLayAll0 (l.map fun s => PyData.str ⟨s.toArray⟩) = true := by
    intro l
    induction l with
    | nil => intro _; rfl
    | cons x l ih =>
      intro h
      rw [List.map_cons, PyData.canLayAll0, ih fun s hs => h s (List.mem_cons_of_mem _ hs), Bool.and_true]
      show PyData.strOk ⟨x.toArray⟩ = true
      unfold PyData.strOk
      rw [Array.all_eq_true]
      intro i hi
      have := h x (List.mem_cons_self ..) x[i] (List.getElem_mem (by simpa using hi))
      simpa using this
  have h2 : ∀ l : List (List Nat), PyData.depthAll (l.map fun s => PyData.str ⟨s.toArray⟩) = 0 := by
    intro l
    induction l with
    | nil => rfl
    | cons x l ih => rw [List.map_cons, PyData.depthAll, ih]; rfl
  rw [PyData.canLay0, h1 l h, PyData.depth, h2 l]
  rfl
theorem eqP_strs {l m : List (List Nat)} (h1 : ∀ s ∈ l, Cp s) (h2 : ∀ s ∈ m, Cp s) : pEq (.lst o (l.map D.str)) (.lst o' (m.map D.str)) = some (decide (l = m)) := by
  show eqP _ _ = _
  unfold eqP
  rw [toP, toP, toPs_strs, toPs_strs, shape_strs l h1, shape_strs m h2, PyData.eqv, eqv_strs]
  rfl
theorem q_eq_ls {l m : List (List Nat)} (h1 : ∀ s ∈ l, Cp s) (h2 : ∀ s ∈ m, Cp s) : prim2 .eq (.lst o (l.map D.str)) (.lst o' (m.map D.str)) = some (.val (.bl (decide (l = m)))) := by
  show vB (pEq _ _) = _
  rw [eqP_strs h1 h2]; rfl
theorem q_ne_ls {l m : List (List Nat)} (h1 : ∀ s ∈ l, Cp s) (h2 : ∀ s ∈ m, Cp s) : prim2 .ne (.lst o (l.map D.str)) (.lst o' (m.map D.str)) = some (.val (.bl (!decide (l = m)))) := by
  show vNB (pEq _ _) = _
  rw [eqP_strs h1 h2]; rfl
theorem q_eq_ns : prim2 .eq .non (.str s) = some (.val (.bl false)) := tr rfl
theorem q_eq_sn : prim2 .eq (.str s) .non = some (.val (.bl false)) := tr rfl
theorem q_eq_nn : prim2 .eq .non .non = some (.val (.bl true)) := tr rfl
theorem q_ne_ns : prim2 .ne .non (.str s) = some (.val (.bl true)) := tr rfl
theorem q_ne_sn : prim2 .ne (.str s) .non = some (.val (.bl true)) := tr rfl
theorem q_ne_nn : prim2 .ne .non .non = some (.val (.bl false)) := tr rfl
theorem q_in_t : prim2 .inn (.str s) (.tup xs) = vB (inL (.str s) xs) := by
  rcases s with _ | ⟨a, _ | ⟨b, s⟩⟩ <;> rfl
theorem q_in_l : prim2 .inn (.str s) (.lst o xs) = vB (inL (.str s) xs) := by
  rcases s with _ | ⟨a, _ | ⟨b, s⟩⟩ <;> rfl
theorem q_nin_l : prim2 .nin (.str s) (.lst o xs) = vNB (inL (.str s) xs) := by
  rcases s with _ | ⟨a, _ | ⟨b, s⟩⟩ <;> rfl
theorem any_strs : ∀ (l : List (List Nat)), ((l.map D.str).any fun y => eqF y (.str s)) = decide (s ∈ l)
  | [] => by simp
  | x :: l => by
    rw [List.map_cons, List.any_cons, any_strs l]
    show (decide (x = s) || decide (s ∈ l)) = _
    have : (x = s) = (s = x) := propext eq_comm
    simp [List.mem_cons, Bool.decide_or, this]
theorem inL_strs (l : List (List Nat)) : inL (.str s) (l.map D.str) = some (decide (s ∈ l)) := by
  unfold inL
  have h : (l.map D.str).all flat = true := by
    rw [List.all_eq_true]
    intro x hx
    obtain ⟨y, _, rfl⟩ := List.mem_map.mp hx
    rfl
  rw [h, any_strs]
  rfl
theorem vB_some_ {k : Bool} : vB (some k) = some (.val (.bl k)) := tr rfl
theorem vNB_some_ {k : Bool} : vNB (some k) = some (.val (.bl (!k))) := tr rfl
theorem q_add : prim2 .add (.int i) (.int j) = some (.val (.int (i + j))) := tr rfl
theorem q_add_s : prim2 .add (.str s) (.str t) = if s.length + t.length ≤ lineN then some (.val (.str (s ++ t))) else none := tr rfl
theorem q_sub : prim2 .sub (.int i) (.int j) = some (.val (.int (i - j))) := tr rfl
theorem q_mul : prim2 .mul (.int i) (.int j) = if mulOk i j then some (.val (.int (i * j))) else none := tr rfl
theorem q_fdiv : prim2 .fdiv (.int i) (.int j) = if 0 < j ∧ j < 1073741824 then some (.val (.int (i / j))) else none := tr rfl
theorem q_mod : prim2 .mod (.int i) (.int j) = if 0 < j then some (.val (.int (i % j))) else none := tr rfl
theorem q_pow : prim2 .pow (.int i) (.int j) = if 0 ≤ j ∧ j ≤ 1000000 ∧ i.natAbs < 18446744073709551616 then some (.val (.int (i ^ j.toNat))) else none := tr rfl
theorem q_lt : prim2 .lt (.int i) (.int j) = some (.val (.bl (decide (i < j)))) := tr rfl
theorem q_le : prim2 .le (.int i) (.int j) = some (.val (.bl (decide (i ≤ j)))) := tr rfl
theorem q_gt : prim2 .gt (.int i) (.int j) = some (.val (.bl (decide (j < i)))) := tr rfl
theorem q_ge : prim2 .ge (.int i) (.int j) = some (.val (.bl (decide (j ≤ i)))) := tr rfl
theorem q_eq_i : prim2 .eq (.int i) (.int j) = some (.val (.bl (decide (i = j)))) := tr rfl
theorem q_eq_s : prim2 .eq (.str s) (.str t) = some (.val (.bl (decide (s = t)))) := tr rfl
theorem q_eq_b : prim2 .eq (.bl b) (.bl b') = some (.val (.bl (decide (b = b')))) := tr rfl
theorem q_ne_i : prim2 .ne (.int i) (.int j) = some (.val (.bl (!decide (i = j)))) := tr rfl
theorem q_ne_s : prim2 .ne (.str s) (.str t) = some (.val (.bl (!decide (s = t)))) := tr rfl
theorem q_ne_b : prim2 .ne (.bl b) (.bl b') = some (.val (.bl (!decide (b = b')))) := tr rfl
theorem q_in_s : prim2 .inn (.str [c]) (.str t) = some (.val (.bl (decide (c ∈ t)))) := tr rfl
theorem q_nin_s : prim2 .nin (.str [c]) (.str t) = some (.val (.bl (!decide (c ∈ t)))) := tr rfl
theorem q_is_n : prim2 .isN .non .non = some (.val (.bl true)) := tr rfl
theorem q_is_i : prim2 .isN (.int i) .non = some (.val (.bl false)) := tr rfl
theorem q_is_s : prim2 .isN (.str s) .non = some (.val (.bl false)) := tr rfl
theorem q_is_l : prim2 .isN (.lst o xs) .non = some (.val (.bl false)) := tr rfl
theorem q_is_t : prim2 .isN (.tup xs) .non = some (.val (.bl false)) := tr rfl
theorem q_is_bb : prim2 .isN (.bl b) (.bl b') = some (.val (.bl (decide (b = b')))) := tr rfl
theorem q_nn_bb : prim2 .notN (.bl b) (.bl b') = some (.val (.bl (!decide (b = b')))) := tr rfl
theorem q_nn_n : prim2 .notN .non .non = some (.val (.bl false)) := tr rfl
theorem q_nn_i : prim2 .notN (.int i) .non = some (.val (.bl true)) := tr rfl
theorem q_nn_s : prim2 .notN (.str s) .non = some (.val (.bl true)) := tr rfl
theorem q_nn_l : prim2 .notN (.lst o xs) .non = some (.val (.bl true)) := tr rfl
theorem q_nn_t : prim2 .notN (.tup xs) .non = some (.val (.bl true)) := tr rfl
theorem q_idx_l : prim2 .idx (.lst o xs) (.int i) = (at_ xs i).bind shr := tr rfl
theorem q_idx_t : prim2 .idx (.tup xs) (.int i) = (at_ xs i).bind shr := tr rfl
theorem q_idx_s : prim2 .idx (.str s) (.int i) = (at_ s i).map fun c => .val (.str [c]) := tr rfl
theorem q_sl_l {lo hi : Option Int} : primS (.lst o xs) lo hi = if ownL xs then none else some (.newl (cut xs lo hi)) := tr rfl
theorem q_sl_s {lo hi : Option Int} : primS (.str s) lo hi = some (.val (.str (cut s lo hi))) := tr rfl
theorem sp_ifn {c : Prop} [Decidable c] {x : PR} {P : D → Prop} : SP_ (if c then none else some x) P = (¬ c ∧ P x.dat) := by
  by_cases h : c
  · rw [if_pos h]; simp [h, SP_]
  · rw [if_neg h]; simp [h, SP_]
theorem shr_no (h : own x = false) : shr x = some (.val x) := by unfold shr; rw [h]; rfl
theorem shr_i : shr (.int i) = some (.val (.int i)) := tr rfl
theorem shr_b : shr (.bl b) = some (.val (.bl b)) := tr rfl
theorem shr_s : shr (.str s) = some (.val (.str s)) := tr rfl
theorem shr_n : shr .non = some (.val .non) := tr rfl
theorem shr_l : shr (.lst false xs) = some (.val (.lst false xs)) := tr rfl
theorem own_l : own (.lst o xs) = o := tr rfl
theorem own_t : own (.tup xs) = ownL xs := tr rfl
theorem own_i : own (.int i) = false := tr rfl
theorem own_s : own (.str s) = false := tr rfl
theorem own_b : own (.bl b) = false := tr rfl
theorem own_n : own .non = false := tr rfl
theorem ownL_nil : ownL [] = false := tr rfl
theorem ownL_cons : ownL (x :: xs) = (own x || ownL xs) := tr rfl
theorem frz_l0 : frz (.lst false xs) = .lst false xs := tr rfl
theorem frz_l1 : frz (.lst true xs) = .lst false (frzL xs) := tr rfl
theorem frz_t : frz (.tup xs) = .tup (frzL xs) := tr rfl
theorem frz_i : frz (.int i) = .int i := tr rfl
theorem frz_s : frz (.str s) = .str s := tr rfl
theorem frz_b : frz (.bl b) = .bl b := tr rfl
theorem frz_n : frz .non = .non := tr rfl
theorem frzL_nil : frzL [] = [] := tr rfl
theorem frzL_cons : frzL (x :: xs) = frz x :: frzL xs := tr rfl
theorem fz_d : fzR (.d x) = .d (if own x then frz x else x) := tr rfl
theorem fz_p {k : Nat} : fzR (.pk k) = .pk k := tr rfl
theorem at_0 : at_ (x :: xs) 0 = some x := tr rfl
theorem at_1 {z : D} : at_ (z :: x :: xs) 1 = some x := tr rfl
theorem at_2 {z w : D} : at_ (z :: w :: x :: xs) 2 = some x := tr rfl
theorem disp_eq : disp xs = (!ownL xs && decide (xs.length ≤ 1000)) := tr rfl
theorem it_l0 : items (.lst o xs) = if ownL xs then none else some xs := tr rfl
theorem it_t : items (.tup xs) = if ownL xs then none else some xs := tr rfl
theorem it_s : items (.str s) = some (s.map fun c => .str [c]) := tr rfl
theorem ty_ii : isTy .int (.int i) = true := tr rfl
theorem ty_ib : isTy .int (.bl b) = true := tr rfl
theorem ty_is : isTy .int (.str s) = false := tr rfl
theorem ty_ss : isTy .str (.str s) = true := tr rfl
theorem ty_si : isTy .str (.int i) = false := tr rfl
theorem ty_bb : isTy .bool (.bl b) = true := tr rfl
theorem ty_bi : isTy .bool (.int i) = false := tr rfl
theorem ty_ll : isTy .list (.lst o xs) = true := tr rfl
theorem ty_tt : isTy .tuple (.tup xs) = true := tr rfl
theorem tr_b : truth (.bl b) = b := tr rfl
theorem tr_i : truth (.int i) = (i != 0) := tr rfl
theorem tr_l : truth (.lst o xs) = !xs.isEmpty := tr rfl
theorem dat_v : (PR.val x).dat = x := tr rfl
theorem dat_l : (PR.newl xs).dat = .lst true xs := tr rfl
theorem dat_t : (PR.newt xs).dat = .tup xs := tr rfl
theorem eno_s : eno_ (.str s) = some (s.map fun c => .str [c]) := tr rfl
theorem eno_l : eno_ (.lst o xs) = if ownL xs then none else some xs := tr rfl
end
end OI

namespace Lw
open PySem L2 OI
def topS (i : Nat) : Stmt := PySem.Challenge.pw_steadycover_k04_whole_consensus.main.body.getD i (.Pass ⟨0, 0, 0, 0⟩)
def c0 : CS := .seq (.ite (.or_ (.not_ (.isi (.pk 0) .str)) (.one (.p2 .ne (.p1 .len (.pk 0)) (.pk 1)))) (.seq (.ret (.cst (.bl false))) .skip) .skip) (.seq (.for1 3 (.itv (.var 0)) (.seq (.ite (.p2 .nin (.pk 3) (.pk 2)) (.seq (.ret (.cst (.bl false))) .skip) .skip) .skip)) (.seq (.ret (.cst (.bl true))) .skip))
def d0 : Fd := ⟨["thing", "n", "signs", "sign"], 3, c0⟩
def c1 : CS := .seq (.ret (.call 0 (.cons (.var 0) (.cons (.var 1) (.cons (.cst (.str [48, 49, 45])) .nil))))) .skip
def d1 : Fd := ⟨["thing", "n"], 2, c1⟩
def c2 : CS := .seq (.ite (.and_ (.isi (.pk 0) .str) (.one (.p2 .le (.p1 .len (.pk 0)) (.gc 0)))) (.seq (.ret (.p1 .len (.pk 0))) .skip) .skip) (.seq (.ret (.cst (.int 0))) .skip)
def d2 : Fd := ⟨["thing"], 1, c2⟩
def c3 : CS := .seq (.asg 1 (.call 2 (.cons (.var 0) .nil))) (.seq (.ite (.or_ (.p2 .eq (.pk 1) (.cst (.int 0))) (.one (.not_ (.call 1 (.cons (.var 0) (.cons (.var 1) .nil)))))) (.seq .never .skip) .skip) .skip)
def d3 : Fd := ⟨["thing", "size"], 1, c3⟩
def c4 : CS := .seq (.ex (.call 3 (.cons (.var 0) .nil))) (.seq (.ite (.not_ (.call 1 (.cons (.var 1) (.cons (.p1 .len (.pk 0)) .nil)))) (.seq .never .skip) .skip) .skip)
def d4 : Fd := ⟨["c", "d"], 2, c4⟩
def c5 : CS := .seq (.ret (.lc [2, 3] true true (.enu (.var 0)) (.p2 .inn (.p2 .add (.pk 3) (.p2 .idx (.pk 1) (.pk 2))) (.tupE (.cons (.cst (.str [48, 49])) (.cons (.cst (.str [49, 48])) .nil)))) (.var 2))) .skip
def d5 : Fd := ⟨["c", "d", "at", "sign"], 2, c5⟩
def c6 : CS := .seq (.asg 2 (.lstE .nil)) (.seq (.forT [3, 4] (.enu (.var 0)) (.seq (.ite (.p2 .eq (.pk 4) (.cst (.str [45]))) (.seq (.app 2 (.p2 .idx (.pk 1) (.pk 3))) .skip) (.seq (.ite (.or_ (.p2 .eq (.p2 .idx (.pk 1) (.pk 3)) (.cst (.str [45]))) (.one (.p2 .eq (.p2 .idx (.pk 1) (.pk 3)) (.pk 4)))) (.seq (.app 2 (.var 4)) .skip) (.seq (.app 2 (.cst (.str [45]))) .skip)) .skip)) .skip)) (.seq (.ret (.p1 .join (.pk 2))) .skip))
def d6 : Fd := ⟨["c", "d", "signs", "at", "sign"], 2, c6⟩
def c7 : CS := .seq (.ex (.call 4 (.cons (.var 0) (.cons (.var 1) .nil)))) (.seq (.ite (.p2 .ne (.p1 .len (.call 5 (.cons (.var 0) (.cons (.var 1) .nil)))) (.cst (.int 1))) (.seq (.ret (.cst .non)) .skip) .skip) (.seq (.ret (.call 6 (.cons (.var 0) (.cons (.var 1) .nil)))) .skip))
def d7 : Fd := ⟨["c", "d"], 2, c7⟩
def c8 : CS := .seq (.asg 2 (.p2 .mod (.p1 .int (.p2 .mul (.p2 .add (.p2 .add (.pk 0) (.p2 .mul (.cst (.int 7919)) (.pk 1))) (.cst (.int 1))) (.cst (.int 48271)))) (.cst (.int 2147483647)))) (.seq (.asg 3 (.p2 .mod (.p1 .int (.p2 .mul (.pk 2) (.p2 .add (.p2 .fdiv (.pk 2) (.cst (.int 1009))) (.cst (.int 69621))))) (.cst (.int 2147483647)))) (.seq (.asg 4 (.p2 .mod (.p1 .int (.p2 .mul (.pk 3) (.p2 .add (.p2 .fdiv (.pk 3) (.cst (.int 2003))) (.cst (.int 40692))))) (.cst (.int 2147483399)))) (.seq (.ret (.p2 .mod (.p1 .int (.p2 .fdiv (.pk 4) (.cst (.int 16)))) (.cst (.int 10007)))) .skip)))
def d8 : Fd := ⟨["_law_seed", "_law_k", "_law_one", "_law_two", "_law_three"], 2, c8⟩
def c9 : CS := .seq (.asg 2 (.lstE .nil)) (.seq (.asg 3 (.cst (.int 1))) (.seq (.for1 4 (.rng1 (.p1 .len (.slc (.pk 0) .noE (.so (.cst (.int 63)))))) (.seq (.asg 5 (.p1 .int (.p2 .idx (.pk 0) (.pk 4)))) (.seq (.asg 3 (.p2 .mod (.p1 .int (.p2 .add (.p2 .add (.p2 .mul (.pk 3) (.cst (.int 69621))) (.p2 .mod (.p1 .int (.pk 5)) (.cst (.int 1000003)))) (.cst (.int 1)))) (.cst (.int 2147483629)))) (.seq (.ite (.p2 .ge (.pk 5) (.p2 .pow (.cst (.int 10)) (.cst (.int 18)))) (.seq (.for1 6 (.rng1 (.cst (.int 60))) (.seq (.ite (.p2 .gt (.pk 5) (.cst (.int 0))) (.seq (.app 2 (.p2 .mod (.p1 .int (.pk 5)) (.cst (.int 10007)))) (.seq (.asg 5 (.p2 .fdiv (.pk 5) (.cst (.int 10007)))) .skip)) .skip) .skip)) .skip) (.seq (.app 2 (.call 8 (.cons (.p2 .mod (.p1 .int (.pk 5)) (.cst (.int 1000003))) (.cons (.p2 .mul (.cst (.int 2)) (.pk 4)) .nil)))) (.seq (.app 2 (.call 8 (.cons (.p2 .mod (.p1 .int (.pk 5)) (.cst (.int 1000003))) (.cons (.p2 .add (.p2 .mul (.cst (.int 2)) (.pk 4)) (.cst (.int 1))) .nil)))) .skip))) .skip)))) (.seq (.for1 6 (.rng1 (.pk 1)) (.seq (.app 2 (.call 8 (.cons (.var 3) (.cons (.p2 .add (.pk 6) (.cst (.int 127))) .nil)))) .skip)) (.seq (.ret (.slc (.pk 2) .noE (.so (.pk 1)))) .skip))))
def d9 : Fd := ⟨["_law_script", "_law_many", "_law_rows", "_law_seed", "_law_at", "_law_cell", "_law_k"], 2, c9⟩
def c10 : CS := .seq (.asg 2 (.lstE (.cons (.cst (.str [])) .nil))) (.seq (.for1 3 (.rng1 (.pk 0)) (.seq (.asg 4 (.lstE .nil)) (.seq (.for1 5 (.itv (.var 2)) (.seq (.for1 6 (.itv (.var 1)) (.seq (.app 4 (.p2 .add (.pk 5) (.pk 6))) .skip)) .skip)) (.seq (.asg 2 (.var 4)) .skip)))) (.seq (.ret (.mov 2)) .skip))
def d10 : Fd := ⟨["_law_n", "_law_signs", "_law_rows", "_law_at", "_law_longer", "_law_row", "_law_sign"], 2, c10⟩
def c11 : CS := .seq (.for1 2 (.rng1 (.p1 .len (.pk 0))) (.seq (.ite (.and_ (.p2 .ne (.p2 .idx (.pk 0) (.pk 2)) (.cst (.str [45]))) (.one (.p2 .ne (.p2 .idx (.pk 0) (.pk 2)) (.p2 .idx (.pk 1) (.pk 2))))) (.seq (.ret (.cst (.bl false))) .skip) .skip) .skip)) (.seq (.ret (.cst (.bl true))) .skip)
def d11 : Fd := ⟨["_law_cube_here", "_law_inner", "_law_at"], 2, c11⟩
def c12 : CS := .seq (.asg 2 (.cst (.str []))) (.seq (.for1 3 (.rng1 (.pk 1)) (.seq (.asg 2 (.p2 .add (.pk 2) (.p2 .idx (.cst (.str [48, 49, 45])) (.p2 .mod (.p1 .int (.pk 0)) (.cst (.int 3)))))) (.seq (.asg 0 (.p2 .fdiv (.pk 0) (.cst (.int 3)))) .skip))) (.seq (.ret (.mov 2)) .skip))
def d12 : Fd := ⟨["_law_number", "_law_n", "_law_text", "_law_at"], 2, c12⟩
def c13 : CS := .seq (.asg 3 (.cst (.str []))) (.seq (.for1 4 (.rng1 (.p1 .len (.pk 0))) (.seq (.ite (.and_ (.p2 .eq (.pk 4) (.pk 2)) (.one (.p2 .ne (.p2 .idx (.pk 0) (.pk 4)) (.cst (.str [45]))))) (.seq (.asg 3 (.p2 .add (.pk 3) (.p2 .idx (.cst (.str [49, 48])) (.p1 .int (.p2 .idx (.pk 0) (.pk 4)))))) .skip) (.seq (.ite (.p2 .eq (.p2 .idx (.pk 0) (.pk 4)) (.cst (.str [45]))) (.seq (.asg 3 (.p2 .add (.pk 3) (.p2 .idx (.pk 1) (.pk 4)))) .skip) (.seq (.ite (.p2 .eq (.p2 .idx (.pk 1) (.pk 4)) (.cst (.str [45]))) (.seq (.asg 3 (.p2 .add (.pk 3) (.cst (.str [45])))) .skip) (.seq (.asg 3 (.p2 .add (.pk 3) (.p2 .idx (.pk 0) (.pk 4)))) .skip)) .skip)) .skip)) .skip)) (.seq (.ret (.mov 3)) .skip))
def d13 : Fd := ⟨["_law_c", "_law_d", "_law_at", "_law_text", "_law_k"], 3, c13⟩
def c14 : CS := .seq (.for1 3 (.itv (.call 10 (.cons (.p1 .len (.pk 0)) (.cons (.cst (.str [48, 49])) .nil)))) (.seq (.ite (.and_ (.call 11 (.cons (.var 2) (.cons (.var 3) .nil))) (.and_ (.not_ (.call 11 (.cons (.var 0) (.cons (.var 3) .nil)))) (.one (.not_ (.call 11 (.cons (.var 1) (.cons (.var 3) .nil))))))) (.seq (.ret (.cst (.bl false))) .skip) .skip) .skip)) (.seq (.ret (.cst (.bl true))) .skip)
def d14 : Fd := ⟨["_law_c", "_law_d", "_law_cube_here", "_law_point"], 3, c14⟩
def c15 : CS := .seq (.asg 3 (.p1 .len (.pk 0))) (.seq (.asg 4 (.call 10 (.cons (.var 3) (.cons (.cst (.str [45, 48, 49])) .nil)))) (.seq (.asg 5 (.p1 .len (.lc [6] false true (.rng1 (.pk 3)) (.p2 .inn (.p2 .add (.p2 .idx (.pk 0) (.pk 6)) (.p2 .idx (.pk 1) (.pk 6))) (.lstE (.cons (.cst (.str [48, 49])) (.cons (.cst (.str [49, 48])) .nil)))) (.var 6)))) (.seq (.ite (.p2 .ne (.pk 5) (.cst (.int 1))) (.seq (.ret (.p2 .isN (.pk 2) (.cst .non))) .skip) .skip) (.seq (.ite (.or_ (.not_ (.isi (.pk 2) .str)) (.or_ (.p2 .nin (.pk 2) (.pk 4)) (.one (.not_ (.call 14 (.cons (.var 0) (.cons (.var 1) (.cons (.var 2) .nil)))))))) (.seq (.ret (.cst (.bl false))) .skip) .skip) (.seq (.for1 7 (.itv (.var 4)) (.seq (.ite (.call 14 (.cons (.var 0) (.cons (.var 1) (.cons (.var 7) .nil)))) (.seq (.ite (.and_ (.not_ (.call 11 (.cons (.var 0) (.cons (.var 7) .nil)))) (.and_ (.not_ (.call 11 (.cons (.var 1) (.cons (.var 7) .nil)))) (.one (.not_ (.call 11 (.cons (.var 2) (.cons (.var 7) .nil))))))) (.seq (.ret (.cst (.bl false))) .skip) .skip) .skip) .skip) .skip)) (.seq (.ret (.cst (.bl true))) .skip))))))
def d15 : Fd := ⟨["_law_c", "_law_d", "_law_told", "_law_n", "_law_cubes", "_law_far", "_law_at", "_law_cube_here"], 3, c15⟩
def c16 : CS := .seq (.asg 1 (.call 9 (.cons (.var 0) (.cons (.cst (.int 19)) .nil)))) (.seq (.asg 2 (.p2 .add (.cst (.int 1)) (.p2 .mod (.p1 .int (.p2 .idx (.pk 1) (.cst (.int 0)))) (.cst (.int 4))))) (.seq (.for1 3 (.rng1 (.cst (.int 6))) (.seq (.asg 4 (.call 12 (.cons (.p2 .idx (.pk 1) (.p2 .add (.p2 .mul (.cst (.int 3)) (.pk 3)) (.cst (.int 1)))) (.cons (.var 2) .nil)))) (.seq (.asg 5 (.call 12 (.cons (.p2 .idx (.pk 1) (.p2 .add (.p2 .mul (.cst (.int 3)) (.pk 3)) (.cst (.int 2)))) (.cons (.var 2) .nil)))) (.seq (.ite (.p2 .gt (.p2 .mod (.p1 .int (.p2 .idx (.pk 1) (.p2 .add (.p2 .mul (.cst (.int 3)) (.pk 3)) (.cst (.int 3))))) (.cst (.int 3))) (.cst (.int 0))) (.seq (.asg 5 (.call 13 (.cons (.var 4) (.cons (.var 5) (.cons (.p2 .mod (.p1 .int (.p2 .fdiv (.p2 .idx (.pk 1) (.p2 .add (.p2 .mul (.cst (.int 3)) (.pk 3)) (.cst (.int 3)))) (.cst (.int 3)))) (.pk 2)) .nil))))) .skip) .skip) (.seq (.asg 6 (.call 7 (.cons (.var 4) (.cons (.var 5) .nil)))) (.seq (.ite (.not_ (.call 15 (.cons (.var 4) (.cons (.var 5) (.cons (.var 6) .nil))))) (.seq (.ret (.cst (.bl false))) .skip) .skip) (.seq (.ite (.p2 .ne (.call 7 (.cons (.var 5) (.cons (.var 4) .nil))) (.pk 6)) (.seq (.ret (.cst (.bl false))) .skip) .skip) .skip))))))) (.seq (.ret (.cst (.bl true))) .skip)))
def d16 : Fd := ⟨["_law_script", "_law_draws_here", "_law_n", "_law_k", "_law_c", "_law_d", "_law_told"], 1, c16⟩
def tab : List Fd := [d0, d1, d2, d3, d4, d5, d6, d7, d8, d9, d10, d11, d12, d13, d14, d15, d16]
def fn : List Str := ["signs_fit", "is_cube", "some_size", "check_cube", "check_pair", "opposed", "merged", "consensus", "_law_mixed", "_law_draws", "_law_strings", "_law_in", "_law_cube", "_law_near", "_law_in_both", "_law_right", "law"]
def gn : List Str := ["MOST_INPUTS"]
def gcs : List D := [.int 4]
end Lw
open PySem L2 OI
/-! ### plain lemmas -/
namespace Lw
theorem mul_r {i j : Int} (h1 : -18446744073709551616 < j) (h2 : j < 18446744073709551616) : mulOk i j = true := by
  unfold mulOk two64
  simp only [Bool.or_eq_true, Bool.and_eq_true, decide_eq_true_eq]
  omega
theorem mul_l {i j : Int} (h1 : -18446744073709551616 < i) (h2 : i < 18446744073709551616) : mulOk i j = true := by
  unfold mulOk two64
  simp only [Bool.or_eq_true, Bool.and_eq_true, decide_eq_true_eq]
  omega
theorem run_rt {gcs : List D} {tab : List Fd} {n j : Nat} {d : Fd} {ds : List D} {r : D} (hd : tab[j]? = some d) (hl : ds.length = d.np)
    (h : Sat (evS gcs (OI.run gcs tab n) d.body (ds.map some ++ List.replicate (d.N.length - d.np) none)) fun f _ => f = .rt r) : OI.run gcs tab (n + 1) j ds = some (.ok r) :=
  run_of hd hl (h.mono fun _ _ q => .inl q)
theorem run_nx {gcs : List D} {tab : List Fd} {n j : Nat} {d : Fd} {ds : List D} (hd : tab[j]? = some d) (hl : ds.length = d.np)
    (h : Sat (evS gcs (OI.run gcs tab n) d.body (ds.map some ++ List.replicate (d.N.length - d.np) none)) fun f _ => f = .nx) : OI.run gcs tab (n + 1) j ds = some (.ok .non) :=
  run_of hd hl (h.mono fun _ _ q => .inr ⟨q, rfl⟩)
theorem run_ex {gcs : List D} {tab : List Fd} {n j : Nat} {d : Fd} {ds : List D} {P : D → Prop} (hd : tab[j]? = some d) (hl : ds.length = d.np)
    (h : Sat (evS gcs (OI.run gcs tab n) d.body (ds.map some ++ List.replicate (d.N.length - d.np) none)) fun f _ => ∃ r, f = .rt r ∧ P r) : ∃ r, OI.run gcs tab (n + 1) j ds = some (.ok r) ∧ P r := by
  obtain ⟨f, e, h1, r, h2, h3⟩ := h.get
  refine ⟨r, ?_, h3⟩
  simp only [OI.run, hd, if_pos hl, h1, h2]
theorem map_snoc {α : Type} (f : α → D) (l : List α) (x : α) : l.map f ++ [f x] = (l ++ [x]).map f := by simp
theorem own_ints (l : List Int) : ownL (l.map D.int) = false := by
  induction l with
  | nil => rfl
  | cons x l ih => simp [ownL, own, ih]
theorem own_strs (l : List (List Nat)) : ownL (l.map D.str) = false := by
  induction l with
  | nil => rfl
  | cons x l ih => simp [ownL, own, ih]
theorem frz_ints (l : List Int) : frzL (l.map D.int) = l.map D.int := by
  induction l with
  | nil => rfl
  | cons x l ih => simp [frzL, frz, ih]
theorem frz_strs (l : List (List Nat)) : frzL (l.map D.str) = l.map D.str := by
  induction l with
  | nil => rfl
  | cons x l ih => simp [frzL, frz, ih]
theorem at_ints {l : List Int} {i : Int} {k : Nat} (hi : i = k) (h : k < l.length) : ∃ x, x ∈ l ∧ at_ (l.map D.int) i = some (.int x) := by
  subst hi
  unfold at_
  rw [if_pos (by omega)]
  refine ⟨l[k], List.getElem_mem h, ?_⟩
  simp [h]
theorem rng_get {m i : Nat} {x : D} (h : ((List.range m).map fun (k : Nat) => D.int k)[i]? = some x) : i < m ∧ x = .int i := by
  rw [List.getElem?_map] at h
  by_cases hi : i < m
  · rw [List.getElem?_range hi] at h
    exact ⟨hi, (Option.some.inj h).symm⟩
  · rw [List.getElem?_eq_none (by simpa using hi)] at h
    cases h
theorem strs_get {s : List Nat} {i : Nat} {x : D} (h : (s.map fun c => D.str [c])[i]? = some x) : ∃ c, s[i]? = some c ∧ x = .str [c] := by
  rw [List.getElem?_map] at h
  cases q : s[i]? with
  | none => rw [q] at h; cases h
  | some c => rw [q] at h; exact ⟨c, rfl, (Option.some.inj h).symm⟩
end Lw
namespace Lw
/-- the signs of a cube -/
def IsC (s : List Nat) : Prop := ∀ c ∈ s, c = 48 ∨ c = 49 ∨ c = 45
theorem isC_snoc {s : List Nat} {c : Nat} (h : IsC s) (hc : c = 48 ∨ c = 49 ∨ c = 45) : IsC (s ++ [c]) := by
  intro x m
  rcases List.mem_append.mp m with z | z
  · exact h x z
  · have e : x = c := by simpa using z
    rw [e]; exact hc
/-- cube c holds cube d -/
def ins : List Nat → List Nat → Bool
  | a :: c, b :: d => (decide (a = 45) || decide (a = b)) && ins c d
  | _, _ => true
theorem ins_iff : ∀ {c d : List Nat}, c.length = d.length → (ins c d = true ↔ ∀ (j : Nat) a b, c[j]? = some a → d[j]? = some b → a = 45 ∨ a = b)
  | [], [], _ => by simp [ins]
  | a :: c, b :: d, h => by
    have ih := ins_iff (c := c) (d := d) (by simpa using h)
    simp only [ins, Bool.and_eq_true, Bool.or_eq_true, decide_eq_true_eq, ih]
    constructor
    · rintro ⟨h1, h2⟩ j x y hx hy
      cases j with
      | zero =>
        simp only [List.getElem?_cons_zero, Option.some.injEq] at hx hy
        rw [← hx, ← hy]; exact h1
      | succ j =>
        simp only [List.getElem?_cons_succ] at hx hy
        exact h2 j x y hx hy
    · intro h
      exact ⟨h 0 a b rfl rfl, fun j x y hx hy => h (j + 1) x y (by simpa using hx) (by simpa using hy)⟩
  | [], _ :: _, h => by simp at h
  | _ :: _, [], h => by simp at h
theorem at_nat {α : Type} {s : List α} {k : Nat} {c : α} (h : s[k]? = some c) : at_ s (k : Int) = some c := by
  unfold at_
  rw [if_pos (by omega)]
  simpa using h
theorem get_ex {α : Type} {s : List α} {k : Nat} (h : k < s.length) : ∃ c, s[k]? = some c := ⟨s[k], List.getElem?_eq_getElem h⟩
/-- the test of one place -/
theorem ins_no {c d : List Nat} (hl : c.length = d.length) {j a b : Nat} (ha : c[j]? = some a) (hb : d[j]? = some b) (h : ¬ (a = 45 ∨ a = b)) : ins c d = false := by
  cases q : ins c d with
  | false => rfl
  | true => exact absurd ((ins_iff hl).mp q j a b ha hb) h
theorem ins_yes {c d : List Nat} (hl : c.length = d.length) (h : ∀ j, j < c.length → ∀ a b, c[j]? = some a → d[j]? = some b → a = 45 ∨ a = b) : ins c d = true :=
  (ins_iff hl).mpr fun j a b ha hb => h j (List.getElem?_eq_some_iff.mp ha).1 a b ha hb
theorem one_ne {a b : Nat} : (decide ([a] = [b])) = decide (a = b) := by simp
end Lw
namespace Lw
theorem r_signs (n : Nat) (s : List Nat) (m : Int) (z : List Nat) : OI.run gcs tab (n + 1) 0 [.str s, .int m, .str z] = some (.ok (.bl (decide ((s.length : Int) = m) && s.all fun c => decide (c ∈ z)))) := by
  refine run_rt (d := d0) rfl rfl ?_
  simp (config := {maxSteps := 4000000}) only [q_is_bb, q_nn_bb, q_eq_ns, q_eq_sn, q_eq_nn, q_ne_ns, q_ne_sn, q_ne_nn, q_in_t, q_in_l, q_nin_l, inL_strs, vB_some_, vNB_some_, ↓Xx_lc, ↓Xt_lc, ↓kLc_eq, ↓kLcR_eq, ↓kLe_d, ↓kLqb_eq, ↓kLq_eq, ↓lc_1, ↓lc_10, ↓lc_2, ↓lc_20, wipe_0, wipe_s, ↓kR2_eq, ↓kR2b_eq, ↓kR2c_eq, ↓kR2d_eq, ↓Xi_rng2, ↓kN_nx, ↓kN_rt, ↓kN_bk, ↓kN_ct, ↓Xy_skip, ↓Xy_seq, ↓kD_eq, ↓Xx_cst, ↓Xx_gc, ↓kV_eq, ↓Xx_var, ↓kM_eq, ↓Xx_mov, ↓kP_eq, ↓Xx_pk, ↓k1b_eq, ↓k1_eq, ↓Xx_p1, ↓k2d_eq, ↓k2c_eq, ↓k2b_eq, ↓k2_eq, ↓Xx_p2, ↓kIb_eq, ↓kI_eq, ↓Xx_isi, ↓kSd_eq, ↓kSc_eq, ↓kSb_eq, ↓kS_eq, ↓Xx_slc, ↓Xx_noE, ↓kOb_eq, ↓kO_eq, ↓Xx_so, ↓kTb_eq, ↓kT_eq, ↓Xx_tup, ↓kLb_eq, ↓kL_eq, ↓Xx_lst, ↓kCb_eq, ↓kC_eq, ↓Xx_call, ↓Xx_nil, ↓kAb_eq, ↓kA_eq, ↓Xx_cons, ↓Xx_one, ↓kAnb_eq, ↓kAn_eq, ↓Xx_and, ↓kOrb_eq, ↓kOr_eq, ↓Xx_or, ↓kNob_eq, ↓kNo_eq, ↓Xx_not, ↓kIfb_eq, ↓kIf_eq, ↓Xx_if, ↓kTrb_eq, ↓kTr_eq, ↓Xt_cst, ↓Xt_var, ↓Xt_pk, ↓Xt_p1, ↓Xt_p2, ↓Xt_isi, ↓Xt_call, ↓Xt_slc, ↓kE_eq, ↓kIv_d, ↓Xi_val, ↓kRb_eq, ↓kR_eq, ↓Xi_rng1, ↓kEnb_eq, ↓kEn_d, ↓Xi_enu, ↓kAs_d, ↓Xy_asg, ↓kApc_eq, ↓kApb_d, ↓kAp_eq, ↓Xy_app, ↓kX_eq, ↓Xy_ex, ↓kRt_d, ↓Xy_ret, ↓Xy_retN, ↓kItb_eq, ↓kIt_eq, ↓Xy_ite, ↓kF_eq, ↓Xy_for1, ↓kFT_eq, ↓Xy_forT, sl_zero, sl_succ, sd_some, sp_some, sp_if, sp_ifn, sb_some, sf_some, si_some, si_if, sint_some, so_some, res_d, res_pk, tv_t_d, tv_f, resL_nil, resL_cons, fz_d, fz_p, q_neg, q_len_s, q_len_l, q_len_t, q_int, q_int_b, q_add, q_add_s, q_sub, q_mul, q_fdiv, q_mod, q_pow, q_lt, q_le, q_gt, q_ge, q_eq_i, q_eq_s, q_eq_b, q_ne_i, q_ne_s, q_ne_b, q_in_s, q_nin_s, q_is_n, q_is_i, q_is_s, q_is_l, q_is_t, q_nn_n, q_nn_i, q_nn_s, q_nn_l, q_nn_t, q_idx_l, q_idx_t, q_idx_s, q_sl_l, q_sl_s, shr_i, shr_b, shr_s, shr_n, shr_l, own_l, own_t, own_i, own_s, own_b, own_n, ownL_nil, ownL_cons, frz_l0, frz_l1, frz_t, frz_i, frz_s, frz_b, frz_n, frzL_nil, frzL_cons, at_0, at_1, at_2, disp_eq, it_l0, it_t, it_s, eno_s, eno_l, ty_ii, ty_ib, ty_is, ty_ss, ty_si, ty_bb, ty_bi, ty_ll, ty_tt, tr_b, tr_i, tr_l, dat_v, dat_l, dat_t, Option.bind_some, Option.map_some, Bool.or_false, Bool.false_or, Bool.true_and, List.set_cons_zero, List.set_cons_succ, if_true, if_false, Bool.false_eq_true, Bool.not_true, Bool.not_false, ↓reduceIte, List.map_cons, List.map_nil, List.cons_append, List.nil_append, List.replicate_succ, List.replicate_zero, List.length_cons, List.length_nil, Nat.reduceSub, Nat.reduceAdd, true_and, reduceCtorEq, false_and, false_or, or_false, exists_false, Nat.reduceLeDiff, Int.reduceLT, Int.reduceLE, Int.reduceNeg, decide_true, and_self, and_true, Int.toNat_natCast, d0, c0]
  refine ite2 (fun h => ?_) (fun h => ?_)
  · have h : ¬ (s.length : Int) = m := by simpa using h
    rw [decide_eq_false h]; rfl
  · have h : (s.length : Int) = m := by simpa using h
    rw [decide_eq_true h]
    refine for_ret (fun i e => ∃ o, e = [some (.str s), some (.int m), some (.str z), o] ∧ ∀ (j : Nat), j < i → ∀ c, s[j]? = some c → c ∈ z) (fun d => d = .bl (true && s.all fun c => decide (c ∈ z))) ⟨none, rfl, fun j hj => by omega⟩ ?_ ?_ ?_
    · rintro i x e hx ⟨o, rfl, hi⟩
      obtain ⟨c, hc, rfl⟩ := strs_get hx
      rw [lp1_eq]
      simp (config := {maxSteps := 4000000}) only [q_is_bb, q_nn_bb, q_eq_ns, q_eq_sn, q_eq_nn, q_ne_ns, q_ne_sn, q_ne_nn, q_in_t, q_in_l, q_nin_l, inL_strs, vB_some_, vNB_some_, ↓Xx_lc, ↓Xt_lc, ↓kLc_eq, ↓kLcR_eq, ↓kLe_d, ↓kLqb_eq, ↓kLq_eq, ↓lc_1, ↓lc_10, ↓lc_2, ↓lc_20, wipe_0, wipe_s, ↓kR2_eq, ↓kR2b_eq, ↓kR2c_eq, ↓kR2d_eq, ↓Xi_rng2, ↓kN_nx, ↓kN_rt, ↓kN_bk, ↓kN_ct, ↓Xy_skip, ↓Xy_seq, ↓kD_eq, ↓Xx_cst, ↓Xx_gc, ↓kV_eq, ↓Xx_var, ↓kM_eq, ↓Xx_mov, ↓kP_eq, ↓Xx_pk, ↓k1b_eq, ↓k1_eq, ↓Xx_p1, ↓k2d_eq, ↓k2c_eq, ↓k2b_eq, ↓k2_eq, ↓Xx_p2, ↓kIb_eq, ↓kI_eq, ↓Xx_isi, ↓kSd_eq, ↓kSc_eq, ↓kSb_eq, ↓kS_eq, ↓Xx_slc, ↓Xx_noE, ↓kOb_eq, ↓kO_eq, ↓Xx_so, ↓kTb_eq, ↓kT_eq, ↓Xx_tup, ↓kLb_eq, ↓kL_eq, ↓Xx_lst, ↓kCb_eq, ↓kC_eq, ↓Xx_call, ↓Xx_nil, ↓kAb_eq, ↓kA_eq, ↓Xx_cons, ↓Xx_one, ↓kAnb_eq, ↓kAn_eq, ↓Xx_and, ↓kOrb_eq, ↓kOr_eq, ↓Xx_or, ↓kNob_eq, ↓kNo_eq, ↓Xx_not, ↓kIfb_eq, ↓kIf_eq, ↓Xx_if, ↓kTrb_eq, ↓kTr_eq, ↓Xt_cst, ↓Xt_var, ↓Xt_pk, ↓Xt_p1, ↓Xt_p2, ↓Xt_isi, ↓Xt_call, ↓Xt_slc, ↓kE_eq, ↓kIv_d, ↓Xi_val, ↓kRb_eq, ↓kR_eq, ↓Xi_rng1, ↓kEnb_eq, ↓kEn_d, ↓Xi_enu, ↓kAs_d, ↓Xy_asg, ↓kApc_eq, ↓kApb_d, ↓kAp_eq, ↓Xy_app, ↓kX_eq, ↓Xy_ex, ↓kRt_d, ↓Xy_ret, ↓Xy_retN, ↓kItb_eq, ↓kIt_eq, ↓Xy_ite, ↓kF_eq, ↓Xy_for1, ↓kFT_eq, ↓Xy_forT, sl_zero, sl_succ, sd_some, sp_some, sp_if, sp_ifn, sb_some, sf_some, si_some, si_if, sint_some, so_some, res_d, res_pk, tv_t_d, tv_f, resL_nil, resL_cons, fz_d, fz_p, q_neg, q_len_s, q_len_l, q_len_t, q_int, q_int_b, q_add, q_add_s, q_sub, q_mul, q_fdiv, q_mod, q_pow, q_lt, q_le, q_gt, q_ge, q_eq_i, q_eq_s, q_eq_b, q_ne_i, q_ne_s, q_ne_b, q_in_s, q_nin_s, q_is_n, q_is_i, q_is_s, q_is_l, q_is_t, q_nn_n, q_nn_i, q_nn_s, q_nn_l, q_nn_t, q_idx_l, q_idx_t, q_idx_s, q_sl_l, q_sl_s, shr_i, shr_b, shr_s, shr_n, shr_l, own_l, own_t, own_i, own_s, own_b, own_n, ownL_nil, ownL_cons, frz_l0, frz_l1, frz_t, frz_i, frz_s, frz_b, frz_n, frzL_nil, frzL_cons, at_0, at_1, at_2, disp_eq, it_l0, it_t, it_s, eno_s, eno_l, ty_ii, ty_ib, ty_is, ty_ss, ty_si, ty_bb, ty_bi, ty_ll, ty_tt, tr_b, tr_i, tr_l, dat_v, dat_l, dat_t, Option.bind_some, Option.map_some, Bool.or_false, Bool.false_or, Bool.true_and, List.set_cons_zero, List.set_cons_succ, if_true, if_false, Bool.false_eq_true, Bool.not_true, Bool.not_false, ↓reduceIte, List.map_cons, List.map_nil, List.cons_append, List.nil_append, List.replicate_succ, List.replicate_zero, List.length_cons, List.length_nil, Nat.reduceSub, Nat.reduceAdd, true_and, reduceCtorEq, false_and, false_or, or_false, exists_false, Nat.reduceLeDiff, Int.reduceLT, Int.reduceLE, Int.reduceNeg, decide_true, and_self, and_true, Int.toNat_natCast]
      refine ite2 (fun h => ?_) (fun h => ?_)
      · refine ⟨_, rfl, ?_⟩
        have h : c ∉ z := by simpa using h
        have : (s.all fun c => decide (c ∈ z)) = false := by
          rw [List.all_eq_false]
          exact ⟨c, List.mem_of_getElem? hc, by simpa using h⟩
        rw [this]
      · have h : c ∈ z := by simpa using h
        refine ⟨_, rfl, fun j hj c' hc' => ?_⟩
        by_cases e : j = i
        · subst e; rw [hc] at hc'; cases hc'; exact h
        · exact hi j (by omega) c' hc'
    · rintro e ⟨o, rfl, hi⟩
      rw [List.length_map] at hi
      simp (config := {maxSteps := 4000000}) only [q_is_bb, q_nn_bb, q_eq_ns, q_eq_sn, q_eq_nn, q_ne_ns, q_ne_sn, q_ne_nn, q_in_t, q_in_l, q_nin_l, inL_strs, vB_some_, vNB_some_, ↓Xx_lc, ↓Xt_lc, ↓kLc_eq, ↓kLcR_eq, ↓kLe_d, ↓kLqb_eq, ↓kLq_eq, ↓lc_1, ↓lc_10, ↓lc_2, ↓lc_20, wipe_0, wipe_s, ↓kR2_eq, ↓kR2b_eq, ↓kR2c_eq, ↓kR2d_eq, ↓Xi_rng2, ↓kN_nx, ↓kN_rt, ↓kN_bk, ↓kN_ct, ↓Xy_skip, ↓Xy_seq, ↓kD_eq, ↓Xx_cst, ↓Xx_gc, ↓kV_eq, ↓Xx_var, ↓kM_eq, ↓Xx_mov, ↓kP_eq, ↓Xx_pk, ↓k1b_eq, ↓k1_eq, ↓Xx_p1, ↓k2d_eq, ↓k2c_eq, ↓k2b_eq, ↓k2_eq, ↓Xx_p2, ↓kIb_eq, ↓kI_eq, ↓Xx_isi, ↓kSd_eq, ↓kSc_eq, ↓kSb_eq, ↓kS_eq, ↓Xx_slc, ↓Xx_noE, ↓kOb_eq, ↓kO_eq, ↓Xx_so, ↓kTb_eq, ↓kT_eq, ↓Xx_tup, ↓kLb_eq, ↓kL_eq, ↓Xx_lst, ↓kCb_eq, ↓kC_eq, ↓Xx_call, ↓Xx_nil, ↓kAb_eq, ↓kA_eq, ↓Xx_cons, ↓Xx_one, ↓kAnb_eq, ↓kAn_eq, ↓Xx_and, ↓kOrb_eq, ↓kOr_eq, ↓Xx_or, ↓kNob_eq, ↓kNo_eq, ↓Xx_not, ↓kIfb_eq, ↓kIf_eq, ↓Xx_if, ↓kTrb_eq, ↓kTr_eq, ↓Xt_cst, ↓Xt_var, ↓Xt_pk, ↓Xt_p1, ↓Xt_p2, ↓Xt_isi, ↓Xt_call, ↓Xt_slc, ↓kE_eq, ↓kIv_d, ↓Xi_val, ↓kRb_eq, ↓kR_eq, ↓Xi_rng1, ↓kEnb_eq, ↓kEn_d, ↓Xi_enu, ↓kAs_d, ↓Xy_asg, ↓kApc_eq, ↓kApb_d, ↓kAp_eq, ↓Xy_app, ↓kX_eq, ↓Xy_ex, ↓kRt_d, ↓Xy_ret, ↓Xy_retN, ↓kItb_eq, ↓kIt_eq, ↓Xy_ite, ↓kF_eq, ↓Xy_for1, ↓kFT_eq, ↓Xy_forT, sl_zero, sl_succ, sd_some, sp_some, sp_if, sp_ifn, sb_some, sf_some, si_some, si_if, sint_some, so_some, res_d, res_pk, tv_t_d, tv_f, resL_nil, resL_cons, fz_d, fz_p, q_neg, q_len_s, q_len_l, q_len_t, q_int, q_int_b, q_add, q_add_s, q_sub, q_mul, q_fdiv, q_mod, q_pow, q_lt, q_le, q_gt, q_ge, q_eq_i, q_eq_s, q_eq_b, q_ne_i, q_ne_s, q_ne_b, q_in_s, q_nin_s, q_is_n, q_is_i, q_is_s, q_is_l, q_is_t, q_nn_n, q_nn_i, q_nn_s, q_nn_l, q_nn_t, q_idx_l, q_idx_t, q_idx_s, q_sl_l, q_sl_s, shr_i, shr_b, shr_s, shr_n, shr_l, own_l, own_t, own_i, own_s, own_b, own_n, ownL_nil, ownL_cons, frz_l0, frz_l1, frz_t, frz_i, frz_s, frz_b, frz_n, frzL_nil, frzL_cons, at_0, at_1, at_2, disp_eq, it_l0, it_t, it_s, eno_s, eno_l, ty_ii, ty_ib, ty_is, ty_ss, ty_si, ty_bb, ty_bi, ty_ll, ty_tt, tr_b, tr_i, tr_l, dat_v, dat_l, dat_t, Option.bind_some, Option.map_some, Bool.or_false, Bool.false_or, Bool.true_and, List.set_cons_zero, List.set_cons_succ, if_true, if_false, Bool.false_eq_true, Bool.not_true, Bool.not_false, ↓reduceIte, List.map_cons, List.map_nil, List.cons_append, List.nil_append, List.replicate_succ, List.replicate_zero, List.length_cons, List.length_nil, Nat.reduceSub, Nat.reduceAdd, true_and, reduceCtorEq, false_and, false_or, or_false, exists_false, Nat.reduceLeDiff, Int.reduceLT, Int.reduceLE, Int.reduceNeg, decide_true, and_self, and_true, Int.toNat_natCast]
      have : (s.all fun c => decide (c ∈ z)) = true := by
        rw [List.all_eq_true]
        intro c hc
        obtain ⟨j, hj⟩ := List.getElem?_of_mem hc
        exact decide_eq_true (hi j (List.getElem?_eq_some_iff.mp hj).1 c hj)
      rw [this]
    · rintro d e rfl
      simp (config := {maxSteps := 4000000}) only [q_is_bb, q_nn_bb, q_eq_ns, q_eq_sn, q_eq_nn, q_ne_ns, q_ne_sn, q_ne_nn, q_in_t, q_in_l, q_nin_l, inL_strs, vB_some_, vNB_some_, ↓Xx_lc, ↓Xt_lc, ↓kLc_eq, ↓kLcR_eq, ↓kLe_d, ↓kLqb_eq, ↓kLq_eq, ↓lc_1, ↓lc_10, ↓lc_2, ↓lc_20, wipe_0, wipe_s, ↓kR2_eq, ↓kR2b_eq, ↓kR2c_eq, ↓kR2d_eq, ↓Xi_rng2, ↓kN_nx, ↓kN_rt, ↓kN_bk, ↓kN_ct, ↓Xy_skip, ↓Xy_seq, ↓kD_eq, ↓Xx_cst, ↓Xx_gc, ↓kV_eq, ↓Xx_var, ↓kM_eq, ↓Xx_mov, ↓kP_eq, ↓Xx_pk, ↓k1b_eq, ↓k1_eq, ↓Xx_p1, ↓k2d_eq, ↓k2c_eq, ↓k2b_eq, ↓k2_eq, ↓Xx_p2, ↓kIb_eq, ↓kI_eq, ↓Xx_isi, ↓kSd_eq, ↓kSc_eq, ↓kSb_eq, ↓kS_eq, ↓Xx_slc, ↓Xx_noE, ↓kOb_eq, ↓kO_eq, ↓Xx_so, ↓kTb_eq, ↓kT_eq, ↓Xx_tup, ↓kLb_eq, ↓kL_eq, ↓Xx_lst, ↓kCb_eq, ↓kC_eq, ↓Xx_call, ↓Xx_nil, ↓kAb_eq, ↓kA_eq, ↓Xx_cons, ↓Xx_one, ↓kAnb_eq, ↓kAn_eq, ↓Xx_and, ↓kOrb_eq, ↓kOr_eq, ↓Xx_or, ↓kNob_eq, ↓kNo_eq, ↓Xx_not, ↓kIfb_eq, ↓kIf_eq, ↓Xx_if, ↓kTrb_eq, ↓kTr_eq, ↓Xt_cst, ↓Xt_var, ↓Xt_pk, ↓Xt_p1, ↓Xt_p2, ↓Xt_isi, ↓Xt_call, ↓Xt_slc, ↓kE_eq, ↓kIv_d, ↓Xi_val, ↓kRb_eq, ↓kR_eq, ↓Xi_rng1, ↓kEnb_eq, ↓kEn_d, ↓Xi_enu, ↓kAs_d, ↓Xy_asg, ↓kApc_eq, ↓kApb_d, ↓kAp_eq, ↓Xy_app, ↓kX_eq, ↓Xy_ex, ↓kRt_d, ↓Xy_ret, ↓Xy_retN, ↓kItb_eq, ↓kIt_eq, ↓Xy_ite, ↓kF_eq, ↓Xy_for1, ↓kFT_eq, ↓Xy_forT, sl_zero, sl_succ, sd_some, sp_some, sp_if, sp_ifn, sb_some, sf_some, si_some, si_if, sint_some, so_some, res_d, res_pk, tv_t_d, tv_f, resL_nil, resL_cons, fz_d, fz_p, q_neg, q_len_s, q_len_l, q_len_t, q_int, q_int_b, q_add, q_add_s, q_sub, q_mul, q_fdiv, q_mod, q_pow, q_lt, q_le, q_gt, q_ge, q_eq_i, q_eq_s, q_eq_b, q_ne_i, q_ne_s, q_ne_b, q_in_s, q_nin_s, q_is_n, q_is_i, q_is_s, q_is_l, q_is_t, q_nn_n, q_nn_i, q_nn_s, q_nn_l, q_nn_t, q_idx_l, q_idx_t, q_idx_s, q_sl_l, q_sl_s, shr_i, shr_b, shr_s, shr_n, shr_l, own_l, own_t, own_i, own_s, own_b, own_n, ownL_nil, ownL_cons, frz_l0, frz_l1, frz_t, frz_i, frz_s, frz_b, frz_n, frzL_nil, frzL_cons, at_0, at_1, at_2, disp_eq, it_l0, it_t, it_s, eno_s, eno_l, ty_ii, ty_ib, ty_is, ty_ss, ty_si, ty_bb, ty_bi, ty_ll, ty_tt, tr_b, tr_i, tr_l, dat_v, dat_l, dat_t, Option.bind_some, Option.map_some, Bool.or_false, Bool.false_or, Bool.true_and, List.set_cons_zero, List.set_cons_succ, if_true, if_false, Bool.false_eq_true, Bool.not_true, Bool.not_false, ↓reduceIte, List.map_cons, List.map_nil, List.cons_append, List.nil_append, List.replicate_succ, List.replicate_zero, List.length_cons, List.length_nil, Nat.reduceSub, Nat.reduceAdd, true_and, reduceCtorEq, false_and, false_or, or_false, exists_false, Nat.reduceLeDiff, Int.reduceLT, Int.reduceLE, Int.reduceNeg, decide_true, and_self, and_true, Int.toNat_natCast]
theorem r_iscube (n : Nat) (s : List Nat) (m : Int) : OI.run gcs tab (n + 2) 1 [.str s, .int m] = some (.ok (.bl (decide ((s.length : Int) = m) && s.all fun c => decide (c ∈ [48, 49, 45])))) := by
  refine run_rt (d := d1) rfl rfl ?_
  simp (config := {maxSteps := 4000000}) only [q_is_bb, q_nn_bb, q_eq_ns, q_eq_sn, q_eq_nn, q_ne_ns, q_ne_sn, q_ne_nn, q_in_t, q_in_l, q_nin_l, inL_strs, vB_some_, vNB_some_, ↓Xx_lc, ↓Xt_lc, ↓kLc_eq, ↓kLcR_eq, ↓kLe_d, ↓kLqb_eq, ↓kLq_eq, ↓lc_1, ↓lc_10, ↓lc_2, ↓lc_20, wipe_0, wipe_s, ↓kR2_eq, ↓kR2b_eq, ↓kR2c_eq, ↓kR2d_eq, ↓Xi_rng2, ↓kN_nx, ↓kN_rt, ↓kN_bk, ↓kN_ct, ↓Xy_skip, ↓Xy_seq, ↓kD_eq, ↓Xx_cst, ↓Xx_gc, ↓kV_eq, ↓Xx_var, ↓kM_eq, ↓Xx_mov, ↓kP_eq, ↓Xx_pk, ↓k1b_eq, ↓k1_eq, ↓Xx_p1, ↓k2d_eq, ↓k2c_eq, ↓k2b_eq, ↓k2_eq, ↓Xx_p2, ↓kIb_eq, ↓kI_eq, ↓Xx_isi, ↓kSd_eq, ↓kSc_eq, ↓kSb_eq, ↓kS_eq, ↓Xx_slc, ↓Xx_noE, ↓kOb_eq, ↓kO_eq, ↓Xx_so, ↓kTb_eq, ↓kT_eq, ↓Xx_tup, ↓kLb_eq, ↓kL_eq, ↓Xx_lst, ↓kCb_eq, ↓kC_eq, ↓Xx_call, ↓Xx_nil, ↓kAb_eq, ↓kA_eq, ↓Xx_cons, ↓Xx_one, ↓kAnb_eq, ↓kAn_eq, ↓Xx_and, ↓kOrb_eq, ↓kOr_eq, ↓Xx_or, ↓kNob_eq, ↓kNo_eq, ↓Xx_not, ↓kIfb_eq, ↓kIf_eq, ↓Xx_if, ↓kTrb_eq, ↓kTr_eq, ↓Xt_cst, ↓Xt_var, ↓Xt_pk, ↓Xt_p1, ↓Xt_p2, ↓Xt_isi, ↓Xt_call, ↓Xt_slc, ↓kE_eq, ↓kIv_d, ↓Xi_val, ↓kRb_eq, ↓kR_eq, ↓Xi_rng1, ↓kEnb_eq, ↓kEn_d, ↓Xi_enu, ↓kAs_d, ↓Xy_asg, ↓kApc_eq, ↓kApb_d, ↓kAp_eq, ↓Xy_app, ↓kX_eq, ↓Xy_ex, ↓kRt_d, ↓Xy_ret, ↓Xy_retN, ↓kItb_eq, ↓kIt_eq, ↓Xy_ite, ↓kF_eq, ↓Xy_for1, ↓kFT_eq, ↓Xy_forT, sl_zero, sl_succ, sd_some, sp_some, sp_if, sp_ifn, sb_some, sf_some, si_some, si_if, sint_some, so_some, res_d, res_pk, tv_t_d, tv_f, resL_nil, resL_cons, fz_d, fz_p, q_neg, q_len_s, q_len_l, q_len_t, q_int, q_int_b, q_add, q_add_s, q_sub, q_mul, q_fdiv, q_mod, q_pow, q_lt, q_le, q_gt, q_ge, q_eq_i, q_eq_s, q_eq_b, q_ne_i, q_ne_s, q_ne_b, q_in_s, q_nin_s, q_is_n, q_is_i, q_is_s, q_is_l, q_is_t, q_nn_n, q_nn_i, q_nn_s, q_nn_l, q_nn_t, q_idx_l, q_idx_t, q_idx_s, q_sl_l, q_sl_s, shr_i, shr_b, shr_s, shr_n, shr_l, own_l, own_t, own_i, own_s, own_b, own_n, ownL_nil, ownL_cons, frz_l0, frz_l1, frz_t, frz_i, frz_s, frz_b, frz_n, frzL_nil, frzL_cons, at_0, at_1, at_2, disp_eq, it_l0, it_t, it_s, eno_s, eno_l, ty_ii, ty_ib, ty_is, ty_ss, ty_si, ty_bb, ty_bi, ty_ll, ty_tt, tr_b, tr_i, tr_l, dat_v, dat_l, dat_t, Option.bind_some, Option.map_some, Bool.or_false, Bool.false_or, Bool.true_and, List.set_cons_zero, List.set_cons_succ, if_true, if_false, Bool.false_eq_true, Bool.not_true, Bool.not_false, ↓reduceIte, List.map_cons, List.map_nil, List.cons_append, List.nil_append, List.replicate_succ, List.replicate_zero, List.length_cons, List.length_nil, Nat.reduceSub, Nat.reduceAdd, true_and, reduceCtorEq, false_and, false_or, or_false, exists_false, Nat.reduceLeDiff, Int.reduceLT, Int.reduceLE, Int.reduceNeg, decide_true, and_self, and_true, Int.toNat_natCast, d1, c1, r_signs]
theorem isC_all {s : List Nat} (h : IsC s) : (s.all fun c => decide (c ∈ [48, 49, 45])) = true := by
  rw [List.all_eq_true]
  intro c hc
  rcases h c hc with e | e | e <;> simp [e]
theorem r_iscube_t (n : Nat) (s : List Nat) (m : Int) (h : IsC s) (hm : (s.length : Int) = m) : OI.run gcs tab (n + 2) 1 [.str s, .int m] = some (.ok (.bl true)) := by
  rw [r_iscube, isC_all h, decide_eq_true hm]; rfl
theorem r_some_size (n : Nat) (s : List Nat) (h : s.length ≤ 4) : OI.run gcs tab (n + 1) 2 [.str s] = some (.ok (.int s.length)) := by
  refine run_rt (d := d2) rfl rfl ?_
  simp (config := {maxSteps := 4000000}) only [q_is_bb, q_nn_bb, q_eq_ns, q_eq_sn, q_eq_nn, q_ne_ns, q_ne_sn, q_ne_nn, q_in_t, q_in_l, q_nin_l, inL_strs, vB_some_, vNB_some_, ↓Xx_lc, ↓Xt_lc, ↓kLc_eq, ↓kLcR_eq, ↓kLe_d, ↓kLqb_eq, ↓kLq_eq, ↓lc_1, ↓lc_10, ↓lc_2, ↓lc_20, wipe_0, wipe_s, ↓kR2_eq, ↓kR2b_eq, ↓kR2c_eq, ↓kR2d_eq, ↓Xi_rng2, ↓kN_nx, ↓kN_rt, ↓kN_bk, ↓kN_ct, ↓Xy_skip, ↓Xy_seq, ↓kD_eq, ↓Xx_cst, ↓Xx_gc, ↓kV_eq, ↓Xx_var, ↓kM_eq, ↓Xx_mov, ↓kP_eq, ↓Xx_pk, ↓k1b_eq, ↓k1_eq, ↓Xx_p1, ↓k2d_eq, ↓k2c_eq, ↓k2b_eq, ↓k2_eq, ↓Xx_p2, ↓kIb_eq, ↓kI_eq, ↓Xx_isi, ↓kSd_eq, ↓kSc_eq, ↓kSb_eq, ↓kS_eq, ↓Xx_slc, ↓Xx_noE, ↓kOb_eq, ↓kO_eq, ↓Xx_so, ↓kTb_eq, ↓kT_eq, ↓Xx_tup, ↓kLb_eq, ↓kL_eq, ↓Xx_lst, ↓kCb_eq, ↓kC_eq, ↓Xx_call, ↓Xx_nil, ↓kAb_eq, ↓kA_eq, ↓Xx_cons, ↓Xx_one, ↓kAnb_eq, ↓kAn_eq, ↓Xx_and, ↓kOrb_eq, ↓kOr_eq, ↓Xx_or, ↓kNob_eq, ↓kNo_eq, ↓Xx_not, ↓kIfb_eq, ↓kIf_eq, ↓Xx_if, ↓kTrb_eq, ↓kTr_eq, ↓Xt_cst, ↓Xt_var, ↓Xt_pk, ↓Xt_p1, ↓Xt_p2, ↓Xt_isi, ↓Xt_call, ↓Xt_slc, ↓kE_eq, ↓kIv_d, ↓Xi_val, ↓kRb_eq, ↓kR_eq, ↓Xi_rng1, ↓kEnb_eq, ↓kEn_d, ↓Xi_enu, ↓kAs_d, ↓Xy_asg, ↓kApc_eq, ↓kApb_d, ↓kAp_eq, ↓Xy_app, ↓kX_eq, ↓Xy_ex, ↓kRt_d, ↓Xy_ret, ↓Xy_retN, ↓kItb_eq, ↓kIt_eq, ↓Xy_ite, ↓kF_eq, ↓Xy_for1, ↓kFT_eq, ↓Xy_forT, sl_zero, sl_succ, sd_some, sp_some, sp_if, sp_ifn, sb_some, sf_some, si_some, si_if, sint_some, so_some, res_d, res_pk, tv_t_d, tv_f, resL_nil, resL_cons, fz_d, fz_p, q_neg, q_len_s, q_len_l, q_len_t, q_int, q_int_b, q_add, q_add_s, q_sub, q_mul, q_fdiv, q_mod, q_pow, q_lt, q_le, q_gt, q_ge, q_eq_i, q_eq_s, q_eq_b, q_ne_i, q_ne_s, q_ne_b, q_in_s, q_nin_s, q_is_n, q_is_i, q_is_s, q_is_l, q_is_t, q_nn_n, q_nn_i, q_nn_s, q_nn_l, q_nn_t, q_idx_l, q_idx_t, q_idx_s, q_sl_l, q_sl_s, shr_i, shr_b, shr_s, shr_n, shr_l, own_l, own_t, own_i, own_s, own_b, own_n, ownL_nil, ownL_cons, frz_l0, frz_l1, frz_t, frz_i, frz_s, frz_b, frz_n, frzL_nil, frzL_cons, at_0, at_1, at_2, disp_eq, it_l0, it_t, it_s, eno_s, eno_l, ty_ii, ty_ib, ty_is, ty_ss, ty_si, ty_bb, ty_bi, ty_ll, ty_tt, tr_b, tr_i, tr_l, dat_v, dat_l, dat_t, Option.bind_some, Option.map_some, Bool.or_false, Bool.false_or, Bool.true_and, List.set_cons_zero, List.set_cons_succ, if_true, if_false, Bool.false_eq_true, Bool.not_true, Bool.not_false, ↓reduceIte, List.map_cons, List.map_nil, List.cons_append, List.nil_append, List.replicate_succ, List.replicate_zero, List.length_cons, List.length_nil, Nat.reduceSub, Nat.reduceAdd, true_and, reduceCtorEq, false_and, false_or, or_false, exists_false, Nat.reduceLeDiff, Int.reduceLT, Int.reduceLE, Int.reduceNeg, decide_true, and_self, and_true, Int.toNat_natCast, d2, c2, gcs, List.getElem?_cons_zero]
  exact ite2 (fun _ => trivial) (fun z => absurd (by simp; omega) z)
theorem r_check_cube (n : Nat) (s : List Nat) (h1 : 1 ≤ s.length) (h : s.length ≤ 4) (hc : IsC s) : OI.run gcs tab (n + 3) 3 [.str s] = some (.ok .non) := by
  refine run_nx (d := d3) rfl rfl ?_
  simp (config := {maxSteps := 4000000}) only [q_is_bb, q_nn_bb, q_eq_ns, q_eq_sn, q_eq_nn, q_ne_ns, q_ne_sn, q_ne_nn, q_in_t, q_in_l, q_nin_l, inL_strs, vB_some_, vNB_some_, ↓Xx_lc, ↓Xt_lc, ↓kLc_eq, ↓kLcR_eq, ↓kLe_d, ↓kLqb_eq, ↓kLq_eq, ↓lc_1, ↓lc_10, ↓lc_2, ↓lc_20, wipe_0, wipe_s, ↓kR2_eq, ↓kR2b_eq, ↓kR2c_eq, ↓kR2d_eq, ↓Xi_rng2, ↓kN_nx, ↓kN_rt, ↓kN_bk, ↓kN_ct, ↓Xy_skip, ↓Xy_seq, ↓kD_eq, ↓Xx_cst, ↓Xx_gc, ↓kV_eq, ↓Xx_var, ↓kM_eq, ↓Xx_mov, ↓kP_eq, ↓Xx_pk, ↓k1b_eq, ↓k1_eq, ↓Xx_p1, ↓k2d_eq, ↓k2c_eq, ↓k2b_eq, ↓k2_eq, ↓Xx_p2, ↓kIb_eq, ↓kI_eq, ↓Xx_isi, ↓kSd_eq, ↓kSc_eq, ↓kSb_eq, ↓kS_eq, ↓Xx_slc, ↓Xx_noE, ↓kOb_eq, ↓kO_eq, ↓Xx_so, ↓kTb_eq, ↓kT_eq, ↓Xx_tup, ↓kLb_eq, ↓kL_eq, ↓Xx_lst, ↓kCb_eq, ↓kC_eq, ↓Xx_call, ↓Xx_nil, ↓kAb_eq, ↓kA_eq, ↓Xx_cons, ↓Xx_one, ↓kAnb_eq, ↓kAn_eq, ↓Xx_and, ↓kOrb_eq, ↓kOr_eq, ↓Xx_or, ↓kNob_eq, ↓kNo_eq, ↓Xx_not, ↓kIfb_eq, ↓kIf_eq, ↓Xx_if, ↓kTrb_eq, ↓kTr_eq, ↓Xt_cst, ↓Xt_var, ↓Xt_pk, ↓Xt_p1, ↓Xt_p2, ↓Xt_isi, ↓Xt_call, ↓Xt_slc, ↓kE_eq, ↓kIv_d, ↓Xi_val, ↓kRb_eq, ↓kR_eq, ↓Xi_rng1, ↓kEnb_eq, ↓kEn_d, ↓Xi_enu, ↓kAs_d, ↓Xy_asg, ↓kApc_eq, ↓kApb_d, ↓kAp_eq, ↓Xy_app, ↓kX_eq, ↓Xy_ex, ↓kRt_d, ↓Xy_ret, ↓Xy_retN, ↓kItb_eq, ↓kIt_eq, ↓Xy_ite, ↓kF_eq, ↓Xy_for1, ↓kFT_eq, ↓Xy_forT, sl_zero, sl_succ, sd_some, sp_some, sp_if, sp_ifn, sb_some, sf_some, si_some, si_if, sint_some, so_some, res_d, res_pk, tv_t_d, tv_f, resL_nil, resL_cons, fz_d, fz_p, q_neg, q_len_s, q_len_l, q_len_t, q_int, q_int_b, q_add, q_add_s, q_sub, q_mul, q_fdiv, q_mod, q_pow, q_lt, q_le, q_gt, q_ge, q_eq_i, q_eq_s, q_eq_b, q_ne_i, q_ne_s, q_ne_b, q_in_s, q_nin_s, q_is_n, q_is_i, q_is_s, q_is_l, q_is_t, q_nn_n, q_nn_i, q_nn_s, q_nn_l, q_nn_t, q_idx_l, q_idx_t, q_idx_s, q_sl_l, q_sl_s, shr_i, shr_b, shr_s, shr_n, shr_l, own_l, own_t, own_i, own_s, own_b, own_n, ownL_nil, ownL_cons, frz_l0, frz_l1, frz_t, frz_i, frz_s, frz_b, frz_n, frzL_nil, frzL_cons, at_0, at_1, at_2, disp_eq, it_l0, it_t, it_s, eno_s, eno_l, ty_ii, ty_ib, ty_is, ty_ss, ty_si, ty_bb, ty_bi, ty_ll, ty_tt, tr_b, tr_i, tr_l, dat_v, dat_l, dat_t, Option.bind_some, Option.map_some, Bool.or_false, Bool.false_or, Bool.true_and, List.set_cons_zero, List.set_cons_succ, if_true, if_false, Bool.false_eq_true, Bool.not_true, Bool.not_false, ↓reduceIte, List.map_cons, List.map_nil, List.cons_append, List.nil_append, List.replicate_succ, List.replicate_zero, List.length_cons, List.length_nil, Nat.reduceSub, Nat.reduceAdd, true_and, reduceCtorEq, false_and, false_or, or_false, exists_false, Nat.reduceLeDiff, Int.reduceLT, Int.reduceLE, Int.reduceNeg, decide_true, and_self, and_true, Int.toNat_natCast, d3, c3, r_some_size _ _ h, r_iscube_t _ _ _ hc rfl]
  refine ite2 (fun z => ?_) (fun _ => trivial)
  · have : (s.length : Int) = 0 := by simpa using z
    omega
theorem r_check_pair (n : Nat) (s t : List Nat) (h1 : 1 ≤ s.length) (h : s.length ≤ 4) (hc : IsC s) (ht : IsC t) (hl : t.length = s.length) : OI.run gcs tab (n + 4) 4 [.str s, .str t] = some (.ok .non) := by
  refine run_nx (d := d4) rfl rfl ?_
  simp (config := {maxSteps := 4000000}) only [q_is_bb, q_nn_bb, q_eq_ns, q_eq_sn, q_eq_nn, q_ne_ns, q_ne_sn, q_ne_nn, q_in_t, q_in_l, q_nin_l, inL_strs, vB_some_, vNB_some_, ↓Xx_lc, ↓Xt_lc, ↓kLc_eq, ↓kLcR_eq, ↓kLe_d, ↓kLqb_eq, ↓kLq_eq, ↓lc_1, ↓lc_10, ↓lc_2, ↓lc_20, wipe_0, wipe_s, ↓kR2_eq, ↓kR2b_eq, ↓kR2c_eq, ↓kR2d_eq, ↓Xi_rng2, ↓kN_nx, ↓kN_rt, ↓kN_bk, ↓kN_ct, ↓Xy_skip, ↓Xy_seq, ↓kD_eq, ↓Xx_cst, ↓Xx_gc, ↓kV_eq, ↓Xx_var, ↓kM_eq, ↓Xx_mov, ↓kP_eq, ↓Xx_pk, ↓k1b_eq, ↓k1_eq, ↓Xx_p1, ↓k2d_eq, ↓k2c_eq, ↓k2b_eq, ↓k2_eq, ↓Xx_p2, ↓kIb_eq, ↓kI_eq, ↓Xx_isi, ↓kSd_eq, ↓kSc_eq, ↓kSb_eq, ↓kS_eq, ↓Xx_slc, ↓Xx_noE, ↓kOb_eq, ↓kO_eq, ↓Xx_so, ↓kTb_eq, ↓kT_eq, ↓Xx_tup, ↓kLb_eq, ↓kL_eq, ↓Xx_lst, ↓kCb_eq, ↓kC_eq, ↓Xx_call, ↓Xx_nil, ↓kAb_eq, ↓kA_eq, ↓Xx_cons, ↓Xx_one, ↓kAnb_eq, ↓kAn_eq, ↓Xx_and, ↓kOrb_eq, ↓kOr_eq, ↓Xx_or, ↓kNob_eq, ↓kNo_eq, ↓Xx_not, ↓kIfb_eq, ↓kIf_eq, ↓Xx_if, ↓kTrb_eq, ↓kTr_eq, ↓Xt_cst, ↓Xt_var, ↓Xt_pk, ↓Xt_p1, ↓Xt_p2, ↓Xt_isi, ↓Xt_call, ↓Xt_slc, ↓kE_eq, ↓kIv_d, ↓Xi_val, ↓kRb_eq, ↓kR_eq, ↓Xi_rng1, ↓kEnb_eq, ↓kEn_d, ↓Xi_enu, ↓kAs_d, ↓Xy_asg, ↓kApc_eq, ↓kApb_d, ↓kAp_eq, ↓Xy_app, ↓kX_eq, ↓Xy_ex, ↓kRt_d, ↓Xy_ret, ↓Xy_retN, ↓kItb_eq, ↓kIt_eq, ↓Xy_ite, ↓kF_eq, ↓Xy_for1, ↓kFT_eq, ↓Xy_forT, sl_zero, sl_succ, sd_some, sp_some, sp_if, sp_ifn, sb_some, sf_some, si_some, si_if, sint_some, so_some, res_d, res_pk, tv_t_d, tv_f, resL_nil, resL_cons, fz_d, fz_p, q_neg, q_len_s, q_len_l, q_len_t, q_int, q_int_b, q_add, q_add_s, q_sub, q_mul, q_fdiv, q_mod, q_pow, q_lt, q_le, q_gt, q_ge, q_eq_i, q_eq_s, q_eq_b, q_ne_i, q_ne_s, q_ne_b, q_in_s, q_nin_s, q_is_n, q_is_i, q_is_s, q_is_l, q_is_t, q_nn_n, q_nn_i, q_nn_s, q_nn_l, q_nn_t, q_idx_l, q_idx_t, q_idx_s, q_sl_l, q_sl_s, shr_i, shr_b, shr_s, shr_n, shr_l, own_l, own_t, own_i, own_s, own_b, own_n, ownL_nil, ownL_cons, frz_l0, frz_l1, frz_t, frz_i, frz_s, frz_b, frz_n, frzL_nil, frzL_cons, at_0, at_1, at_2, disp_eq, it_l0, it_t, it_s, eno_s, eno_l, ty_ii, ty_ib, ty_is, ty_ss, ty_si, ty_bb, ty_bi, ty_ll, ty_tt, tr_b, tr_i, tr_l, dat_v, dat_l, dat_t, Option.bind_some, Option.map_some, Bool.or_false, Bool.false_or, Bool.true_and, List.set_cons_zero, List.set_cons_succ, if_true, if_false, Bool.false_eq_true, Bool.not_true, Bool.not_false, ↓reduceIte, List.map_cons, List.map_nil, List.cons_append, List.nil_append, List.replicate_succ, List.replicate_zero, List.length_cons, List.length_nil, Nat.reduceSub, Nat.reduceAdd, true_and, reduceCtorEq, false_and, false_or, or_false, exists_false, Nat.reduceLeDiff, Int.reduceLT, Int.reduceLE, Int.reduceNeg, decide_true, and_self, and_true, Int.toNat_natCast, d4, c4, r_check_cube _ _ h1 h hc, r_iscube_t (n + 1) t (s.length : Int) ht (by omega)]
end Lw
namespace Lw
theorem map_get {α : Type} {f : α → D} {l : List α} {i : Nat} {x : D} (h : (l.map f)[i]? = some x) : ∃ a, l[i]? = some a ∧ x = f a := by
  rw [List.getElem?_map] at h
  cases q : l[i]? with
  | none => rw [q] at h; cases h
  | some c => rw [q] at h; exact ⟨c, rfl, (Option.some.inj h).symm⟩
/-- all words of a length -/
def strsOf : Nat → List Nat → List (List Nat)
  | 0, _ => [[]]
  | m + 1, z => (strsOf m z).flatMap fun r => z.map fun c => r ++ [c]
theorem strs_len : ∀ {m : Nat} {z p : List Nat}, p ∈ strsOf m z → p.length = m
  | 0, z, p, h => by
    have : p = [] := by simpa [strsOf] using h
    rw [this]; rfl
  | m + 1, z, p, h => by
    rw [strsOf, List.mem_flatMap] at h
    obtain ⟨r, hr, h⟩ := h
    rw [List.mem_map] at h
    obtain ⟨c, _, rfl⟩ := h
    rw [List.length_append, strs_len hr]; rfl
theorem strs_in : ∀ {m : Nat} {z p : List Nat}, p ∈ strsOf m z → ∀ c ∈ p, c ∈ z
  | 0, z, p, h => by
    have : p = [] := by simpa [strsOf] using h
    rw [this]; intro c hc; cases hc
  | m + 1, z, p, h => by
    rw [strsOf, List.mem_flatMap] at h
    obtain ⟨r, hr, h⟩ := h
    rw [List.mem_map] at h
    obtain ⟨c, hc, rfl⟩ := h
    intro x hx
    rcases List.mem_append.mp hx with q | q
    · exact strs_in hr x q
    · have e : x = c := by simpa using q
      rw [e]; exact hc
theorem strs_mem : ∀ {m : Nat} {z p : List Nat}, p.length = m → (∀ c ∈ p, c ∈ z) → p ∈ strsOf m z
  | 0, z, p, h, _ => by
    have : p = [] := List.eq_nil_of_length_eq_zero h
    rw [this]; simp [strsOf]
  | m + 1, z, p, h, hc => by
    have hne : p ≠ [] := by intro q; rw [q] at h; cases h
    have e := List.dropLast_concat_getLast hne
    rw [strsOf, List.mem_flatMap]
    refine ⟨p.dropLast, strs_mem (by rw [List.length_dropLast, h]; rfl) (fun c q => hc c ((List.dropLast_sublist p).subset q)), ?_⟩
    rw [List.mem_map]
    exact ⟨p.getLast hne, hc _ (List.getLast_mem hne), e⟩
theorem flat_len {α β : Type} (f : α → List β) (k : Nat) : ∀ (l : List α), (∀ a ∈ l, (f a).length = k) → (l.flatMap f).length = l.length * k
  | [], _ => by simp
  | a :: l, h => by
    rw [List.flatMap_cons, List.length_append, flat_len f k l (fun b hb => h b (List.mem_cons_of_mem _ hb)), h a (List.mem_cons_self ..), List.length_cons, Nat.add_mul]
    omega
theorem strs_many : ∀ (m : Nat) (z : List Nat), (strsOf m z).length = z.length ^ m
  | 0, z => by simp [strsOf]
  | m + 1, z => by
    rw [strsOf, flat_len _ z.length _ (fun a _ => by simp), strs_many m z, Nat.pow_succ]
theorem pow_small {k m : Nat} (hk : k ≤ 3) (hm : m ≤ 4) : k ^ m ≤ 81 := by
  have h1 : k ^ m ≤ 3 ^ m := Nat.pow_le_pow_left hk m
  have h2 : 3 ^ m ≤ 3 ^ 4 := Nat.pow_le_pow_right (by decide) hm
  have : 3 ^ 4 = 81 := rfl
  omega
/-- the words made so far -/
def part (R : List (List Nat)) (z : List Nat) (j : Nat) : List (List Nat) := (R.take j).flatMap fun r => z.map fun c => r ++ [c]
theorem part_succ {R : List (List Nat)} {z : List Nat} {j : Nat} {r : List Nat} (h : R[j]? = some r) : part R z (j + 1) = part R z j ++ z.map fun c => r ++ [c] := by
  unfold part
  rw [List.take_add_one, h]
  simp
theorem part_all {R : List (List Nat)} {z : List Nat} : part R z R.length = R.flatMap fun r => z.map fun c => r ++ [c] := by
  unfold part
  rw [List.take_length]
theorem part_len (R : List (List Nat)) (z : List Nat) (j : Nat) : (part R z j).length ≤ R.length * z.length := by
  unfold part
  rw [flat_len _ z.length _ (fun a _ => by simp)]
  exact Nat.mul_le_mul_right _ (by rw [List.length_take]; omega)
theorem take_get {α : Type} {l : List α} {k : Nat} {c : α} (h : l[k]? = some c) : l.take (k + 1) = l.take k ++ [c] := by
  rw [List.take_add_one, h]; rfl
end Lw
namespace Lw
theorem r_strings (n m : Nat) (z : List Nat) (hm : m ≤ 4) (hz : z.length ≤ 3) : ∃ v, OI.run gcs tab (n + 1) 10 [.int m, .str z] = some (.ok v) ∧ ∃ o, v = .lst o ((strsOf m z).map D.str) := by
  refine run_ex (d := d10) rfl rfl ?_
  simp (config := {maxSteps := 4000000}) only [q_is_bb, q_nn_bb, q_eq_ns, q_eq_sn, q_eq_nn, q_ne_ns, q_ne_sn, q_ne_nn, q_in_t, q_in_l, q_nin_l, inL_strs, vB_some_, vNB_some_, ↓Xx_lc, ↓Xt_lc, ↓kLc_eq, ↓kLcR_eq, ↓kLe_d, ↓kLqb_eq, ↓kLq_eq, ↓lc_1, ↓lc_10, ↓lc_2, ↓lc_20, wipe_0, wipe_s, ↓kR2_eq, ↓kR2b_eq, ↓kR2c_eq, ↓kR2d_eq, ↓Xi_rng2, ↓kN_nx, ↓kN_rt, ↓kN_bk, ↓kN_ct, ↓Xy_skip, ↓Xy_seq, ↓kD_eq, ↓Xx_cst, ↓Xx_gc, ↓kV_eq, ↓Xx_var, ↓kM_eq, ↓Xx_mov, ↓kP_eq, ↓Xx_pk, ↓k1b_eq, ↓k1_eq, ↓Xx_p1, ↓k2d_eq, ↓k2c_eq, ↓k2b_eq, ↓k2_eq, ↓Xx_p2, ↓kIb_eq, ↓kI_eq, ↓Xx_isi, ↓kSd_eq, ↓kSc_eq, ↓kSb_eq, ↓kS_eq, ↓Xx_slc, ↓Xx_noE, ↓kOb_eq, ↓kO_eq, ↓Xx_so, ↓kTb_eq, ↓kT_eq, ↓Xx_tup, ↓kLb_eq, ↓kL_eq, ↓Xx_lst, ↓kCb_eq, ↓kC_eq, ↓Xx_call, ↓Xx_nil, ↓kAb_eq, ↓kA_eq, ↓Xx_cons, ↓Xx_one, ↓kAnb_eq, ↓kAn_eq, ↓Xx_and, ↓kOrb_eq, ↓kOr_eq, ↓Xx_or, ↓kNob_eq, ↓kNo_eq, ↓Xx_not, ↓kIfb_eq, ↓kIf_eq, ↓Xx_if, ↓kTrb_eq, ↓kTr_eq, ↓Xt_cst, ↓Xt_var, ↓Xt_pk, ↓Xt_p1, ↓Xt_p2, ↓Xt_isi, ↓Xt_call, ↓Xt_slc, ↓kE_eq, ↓kIv_d, ↓Xi_val, ↓kRb_eq, ↓kR_eq, ↓Xi_rng1, ↓kEnb_eq, ↓kEn_d, ↓Xi_enu, ↓kAs_d, ↓Xy_asg, ↓kApc_eq, ↓kApb_d, ↓kAp_eq, ↓Xy_app, ↓kX_eq, ↓Xy_ex, ↓kRt_d, ↓Xy_ret, ↓Xy_retN, ↓kItb_eq, ↓kIt_eq, ↓Xy_ite, ↓kF_eq, ↓Xy_for1, ↓kFT_eq, ↓Xy_forT, sl_zero, sl_succ, sd_some, sp_some, sp_if, sp_ifn, sb_some, sf_some, si_some, si_if, sint_some, so_some, res_d, res_pk, tv_t_d, tv_f, resL_nil, resL_cons, fz_d, fz_p, q_neg, q_len_s, q_len_l, q_len_t, q_int, q_int_b, q_add, q_add_s, q_sub, q_mul, q_fdiv, q_mod, q_pow, q_lt, q_le, q_gt, q_ge, q_eq_i, q_eq_s, q_eq_b, q_ne_i, q_ne_s, q_ne_b, q_in_s, q_nin_s, q_is_n, q_is_i, q_is_s, q_is_l, q_is_t, q_nn_n, q_nn_i, q_nn_s, q_nn_l, q_nn_t, q_idx_l, q_idx_t, q_idx_s, q_sl_l, q_sl_s, shr_i, shr_b, shr_s, shr_n, shr_l, own_l, own_t, own_i, own_s, own_b, own_n, ownL_nil, ownL_cons, frz_l0, frz_l1, frz_t, frz_i, frz_s, frz_b, frz_n, frzL_nil, frzL_cons, at_0, at_1, at_2, disp_eq, it_l0, it_t, it_s, eno_s, eno_l, ty_ii, ty_ib, ty_is, ty_ss, ty_si, ty_bb, ty_bi, ty_ll, ty_tt, tr_b, tr_i, tr_l, dat_v, dat_l, dat_t, Option.bind_some, Option.map_some, Bool.or_false, Bool.false_or, Bool.true_and, List.set_cons_zero, List.set_cons_succ, if_true, if_false, Bool.false_eq_true, Bool.not_true, Bool.not_false, ↓reduceIte, List.map_cons, List.map_nil, List.cons_append, List.nil_append, List.replicate_succ, List.replicate_zero, List.length_cons, List.length_nil, Nat.reduceSub, Nat.reduceAdd, true_and, reduceCtorEq, false_and, false_or, or_false, exists_false, Nat.reduceLeDiff, Int.reduceLT, Int.reduceLE, Int.reduceNeg, decide_true, and_self, and_true, Int.toNat_natCast, d10, c10]
  refine ⟨⟨by omega, by omega⟩, ?_⟩
  refine for_inv (fun i e => ∃ (o : Bool) (o3 o4 o5 o6 : Option D), e = [some (.int m), some (.str z), some (.lst o ((strsOf i z).map D.str)), o3, o4, o5, o6]) ⟨true, none, none, none, none, rfl⟩ ?_ ?_
  · rintro i x e hx ⟨o, o3, o4, o5, o6, rfl⟩
    obtain ⟨hi, rfl⟩ := rng_get hx
    have hi : i < m := by simpa using hi
    have hR : (strsOf i z).length ≤ 81 := by rw [strs_many]; exact pow_small hz (by omega)
    rw [lp1_eq]
    have key : ∀ o2 : Option D, o2 = some (.lst o ((strsOf i z).map D.str)) ∨ o2 = some (.lst false ((strsOf i z).map D.str)) → Sat (forL (lp1 gcs (OI.run gcs tab n) (.seq (.for1 6 (.itv (.var 1)) (.seq (.app 4 (.p2 .add (.pk 5) (.pk 6))) .skip)) .skip) 5) ((strsOf i z).map D.str) [some (.int m), some (.str z), o2, some (.int i), some (.lst true []), o5, o6]) fun f e => f = .nx ∧ ∃ (o5 o6 : Option D), e = [some (.int m), some (.str z), o2, some (.int i), some (.lst true ((strsOf (i + 1) z).map D.str)), o5, o6] := by
      intro o2 _
      refine for_inv (fun j e => ∃ (o5 o6 : Option D), e = [some (.int m), some (.str z), o2, some (.int i), some (.lst true ((part (strsOf i z) z j).map D.str)), o5, o6]) ⟨o5, o6, rfl⟩ ?_ ?_
      · rintro j x e hx ⟨o5, o6, rfl⟩
        obtain ⟨r, hr, rfl⟩ := map_get hx
        have hrl := strs_len (List.mem_of_getElem? hr)
        rw [lp1_eq]
        simp (config := {maxSteps := 4000000}) only [q_is_bb, q_nn_bb, q_eq_ns, q_eq_sn, q_eq_nn, q_ne_ns, q_ne_sn, q_ne_nn, q_in_t, q_in_l, q_nin_l, inL_strs, vB_some_, vNB_some_, ↓Xx_lc, ↓Xt_lc, ↓kLc_eq, ↓kLcR_eq, ↓kLe_d, ↓kLqb_eq, ↓kLq_eq, ↓lc_1, ↓lc_10, ↓lc_2, ↓lc_20, wipe_0, wipe_s, ↓kR2_eq, ↓kR2b_eq, ↓kR2c_eq, ↓kR2d_eq, ↓Xi_rng2, ↓kN_nx, ↓kN_rt, ↓kN_bk, ↓kN_ct, ↓Xy_skip, ↓Xy_seq, ↓kD_eq, ↓Xx_cst, ↓Xx_gc, ↓kV_eq, ↓Xx_var, ↓kM_eq, ↓Xx_mov, ↓kP_eq, ↓Xx_pk, ↓k1b_eq, ↓k1_eq, ↓Xx_p1, ↓k2d_eq, ↓k2c_eq, ↓k2b_eq, ↓k2_eq, ↓Xx_p2, ↓kIb_eq, ↓kI_eq, ↓Xx_isi, ↓kSd_eq, ↓kSc_eq, ↓kSb_eq, ↓kS_eq, ↓Xx_slc, ↓Xx_noE, ↓kOb_eq, ↓kO_eq, ↓Xx_so, ↓kTb_eq, ↓kT_eq, ↓Xx_tup, ↓kLb_eq, ↓kL_eq, ↓Xx_lst, ↓kCb_eq, ↓kC_eq, ↓Xx_call, ↓Xx_nil, ↓kAb_eq, ↓kA_eq, ↓Xx_cons, ↓Xx_one, ↓kAnb_eq, ↓kAn_eq, ↓Xx_and, ↓kOrb_eq, ↓kOr_eq, ↓Xx_or, ↓kNob_eq, ↓kNo_eq, ↓Xx_not, ↓kIfb_eq, ↓kIf_eq, ↓Xx_if, ↓kTrb_eq, ↓kTr_eq, ↓Xt_cst, ↓Xt_var, ↓Xt_pk, ↓Xt_p1, ↓Xt_p2, ↓Xt_isi, ↓Xt_call, ↓Xt_slc, ↓kE_eq, ↓kIv_d, ↓Xi_val, ↓kRb_eq, ↓kR_eq, ↓Xi_rng1, ↓kEnb_eq, ↓kEn_d, ↓Xi_enu, ↓kAs_d, ↓Xy_asg, ↓kApc_eq, ↓kApb_d, ↓kAp_eq, ↓Xy_app, ↓kX_eq, ↓Xy_ex, ↓kRt_d, ↓Xy_ret, ↓Xy_retN, ↓kItb_eq, ↓kIt_eq, ↓Xy_ite, ↓kF_eq, ↓Xy_for1, ↓kFT_eq, ↓Xy_forT, sl_zero, sl_succ, sd_some, sp_some, sp_if, sp_ifn, sb_some, sf_some, si_some, si_if, sint_some, so_some, res_d, res_pk, tv_t_d, tv_f, resL_nil, resL_cons, fz_d, fz_p, q_neg, q_len_s, q_len_l, q_len_t, q_int, q_int_b, q_add, q_add_s, q_sub, q_mul, q_fdiv, q_mod, q_pow, q_lt, q_le, q_gt, q_ge, q_eq_i, q_eq_s, q_eq_b, q_ne_i, q_ne_s, q_ne_b, q_in_s, q_nin_s, q_is_n, q_is_i, q_is_s, q_is_l, q_is_t, q_nn_n, q_nn_i, q_nn_s, q_nn_l, q_nn_t, q_idx_l, q_idx_t, q_idx_s, q_sl_l, q_sl_s, shr_i, shr_b, shr_s, shr_n, shr_l, own_l, own_t, own_i, own_s, own_b, own_n, ownL_nil, ownL_cons, frz_l0, frz_l1, frz_t, frz_i, frz_s, frz_b, frz_n, frzL_nil, frzL_cons, at_0, at_1, at_2, disp_eq, it_l0, it_t, it_s, eno_s, eno_l, ty_ii, ty_ib, ty_is, ty_ss, ty_si, ty_bb, ty_bi, ty_ll, ty_tt, tr_b, tr_i, tr_l, dat_v, dat_l, dat_t, Option.bind_some, Option.map_some, Bool.or_false, Bool.false_or, Bool.true_and, List.set_cons_zero, List.set_cons_succ, if_true, if_false, Bool.false_eq_true, Bool.not_true, Bool.not_false, ↓reduceIte, List.map_cons, List.map_nil, List.cons_append, List.nil_append, List.replicate_succ, List.replicate_zero, List.length_cons, List.length_nil, Nat.reduceSub, Nat.reduceAdd, true_and, reduceCtorEq, false_and, false_or, or_false, exists_false, Nat.reduceLeDiff, Int.reduceLT, Int.reduceLE, Int.reduceNeg, decide_true, and_self, and_true, Int.toNat_natCast]
        refine for_inv (fun k e => ∃ (o6 : Option D), e = [some (.int m), some (.str z), o2, some (.int i), some (.lst true ((part (strsOf i z) z j ++ (z.take k).map fun c => r ++ [c]).map D.str)), some (.str r), o6]) ⟨o6, by simp⟩ ?_ ?_
        · rintro k x e hx ⟨o6, rfl⟩
          obtain ⟨c, hc, rfl⟩ := strs_get hx
          rw [lp1_eq]
          simp (config := {maxSteps := 4000000}) only [q_is_bb, q_nn_bb, q_eq_ns, q_eq_sn, q_eq_nn, q_ne_ns, q_ne_sn, q_ne_nn, q_in_t, q_in_l, q_nin_l, inL_strs, vB_some_, vNB_some_, ↓Xx_lc, ↓Xt_lc, ↓kLc_eq, ↓kLcR_eq, ↓kLe_d, ↓kLqb_eq, ↓kLq_eq, ↓lc_1, ↓lc_10, ↓lc_2, ↓lc_20, wipe_0, wipe_s, ↓kR2_eq, ↓kR2b_eq, ↓kR2c_eq, ↓kR2d_eq, ↓Xi_rng2, ↓kN_nx, ↓kN_rt, ↓kN_bk, ↓kN_ct, ↓Xy_skip, ↓Xy_seq, ↓kD_eq, ↓Xx_cst, ↓Xx_gc, ↓kV_eq, ↓Xx_var, ↓kM_eq, ↓Xx_mov, ↓kP_eq, ↓Xx_pk, ↓k1b_eq, ↓k1_eq, ↓Xx_p1, ↓k2d_eq, ↓k2c_eq, ↓k2b_eq, ↓k2_eq, ↓Xx_p2, ↓kIb_eq, ↓kI_eq, ↓Xx_isi, ↓kSd_eq, ↓kSc_eq, ↓kSb_eq, ↓kS_eq, ↓Xx_slc, ↓Xx_noE, ↓kOb_eq, ↓kO_eq, ↓Xx_so, ↓kTb_eq, ↓kT_eq, ↓Xx_tup, ↓kLb_eq, ↓kL_eq, ↓Xx_lst, ↓kCb_eq, ↓kC_eq, ↓Xx_call, ↓Xx_nil, ↓kAb_eq, ↓kA_eq, ↓Xx_cons, ↓Xx_one, ↓kAnb_eq, ↓kAn_eq, ↓Xx_and, ↓kOrb_eq, ↓kOr_eq, ↓Xx_or, ↓kNob_eq, ↓kNo_eq, ↓Xx_not, ↓kIfb_eq, ↓kIf_eq, ↓Xx_if, ↓kTrb_eq, ↓kTr_eq, ↓Xt_cst, ↓Xt_var, ↓Xt_pk, ↓Xt_p1, ↓Xt_p2, ↓Xt_isi, ↓Xt_call, ↓Xt_slc, ↓kE_eq, ↓kIv_d, ↓Xi_val, ↓kRb_eq, ↓kR_eq, ↓Xi_rng1, ↓kEnb_eq, ↓kEn_d, ↓Xi_enu, ↓kAs_d, ↓Xy_asg, ↓kApc_eq, ↓kApb_d, ↓kAp_eq, ↓Xy_app, ↓kX_eq, ↓Xy_ex, ↓kRt_d, ↓Xy_ret, ↓Xy_retN, ↓kItb_eq, ↓kIt_eq, ↓Xy_ite, ↓kF_eq, ↓Xy_for1, ↓kFT_eq, ↓Xy_forT, sl_zero, sl_succ, sd_some, sp_some, sp_if, sp_ifn, sb_some, sf_some, si_some, si_if, sint_some, so_some, res_d, res_pk, tv_t_d, tv_f, resL_nil, resL_cons, fz_d, fz_p, q_neg, q_len_s, q_len_l, q_len_t, q_int, q_int_b, q_add, q_add_s, q_sub, q_mul, q_fdiv, q_mod, q_pow, q_lt, q_le, q_gt, q_ge, q_eq_i, q_eq_s, q_eq_b, q_ne_i, q_ne_s, q_ne_b, q_in_s, q_nin_s, q_is_n, q_is_i, q_is_s, q_is_l, q_is_t, q_nn_n, q_nn_i, q_nn_s, q_nn_l, q_nn_t, q_idx_l, q_idx_t, q_idx_s, q_sl_l, q_sl_s, shr_i, shr_b, shr_s, shr_n, shr_l, own_l, own_t, own_i, own_s, own_b, own_n, ownL_nil, ownL_cons, frz_l0, frz_l1, frz_t, frz_i, frz_s, frz_b, frz_n, frzL_nil, frzL_cons, at_0, at_1, at_2, disp_eq, it_l0, it_t, it_s, eno_s, eno_l, ty_ii, ty_ib, ty_is, ty_ss, ty_si, ty_bb, ty_bi, ty_ll, ty_tt, tr_b, tr_i, tr_l, dat_v, dat_l, dat_t, Option.bind_some, Option.map_some, Bool.or_false, Bool.false_or, Bool.true_and, List.set_cons_zero, List.set_cons_succ, if_true, if_false, Bool.false_eq_true, Bool.not_true, Bool.not_false, ↓reduceIte, List.map_cons, List.map_nil, List.cons_append, List.nil_append, List.replicate_succ, List.replicate_zero, List.length_cons, List.length_nil, Nat.reduceSub, Nat.reduceAdd, true_and, reduceCtorEq, false_and, false_or, or_false, exists_false, Nat.reduceLeDiff, Int.reduceLT, Int.reduceLE, Int.reduceNeg, decide_true, and_self, and_true, Int.toNat_natCast]
          refine ⟨line_le (by omega), ?_, ?_⟩
          · have h1 := part_len (strsOf i z) z j
            have h2 : (strsOf i z).length * z.length ≤ 81 * 3 := Nat.mul_le_mul hR hz
            refine line_lt ?_
            rw [List.length_map, List.length_append, List.length_map, List.length_take]; omega
          · refine ⟨some (.str [c]), ?_⟩
            rw [take_get hc]
            simp
        · rintro e ⟨o6, rfl⟩
          rw [List.length_map]
          simp (config := {maxSteps := 4000000}) only [q_is_bb, q_nn_bb, q_eq_ns, q_eq_sn, q_eq_nn, q_ne_ns, q_ne_sn, q_ne_nn, q_in_t, q_in_l, q_nin_l, inL_strs, vB_some_, vNB_some_, ↓Xx_lc, ↓Xt_lc, ↓kLc_eq, ↓kLcR_eq, ↓kLe_d, ↓kLqb_eq, ↓kLq_eq, ↓lc_1, ↓lc_10, ↓lc_2, ↓lc_20, wipe_0, wipe_s, ↓kR2_eq, ↓kR2b_eq, ↓kR2c_eq, ↓kR2d_eq, ↓Xi_rng2, ↓kN_nx, ↓kN_rt, ↓kN_bk, ↓kN_ct, ↓Xy_skip, ↓Xy_seq, ↓kD_eq, ↓Xx_cst, ↓Xx_gc, ↓kV_eq, ↓Xx_var, ↓kM_eq, ↓Xx_mov, ↓kP_eq, ↓Xx_pk, ↓k1b_eq, ↓k1_eq, ↓Xx_p1, ↓k2d_eq, ↓k2c_eq, ↓k2b_eq, ↓k2_eq, ↓Xx_p2, ↓kIb_eq, ↓kI_eq, ↓Xx_isi, ↓kSd_eq, ↓kSc_eq, ↓kSb_eq, ↓kS_eq, ↓Xx_slc, ↓Xx_noE, ↓kOb_eq, ↓kO_eq, ↓Xx_so, ↓kTb_eq, ↓kT_eq, ↓Xx_tup, ↓kLb_eq, ↓kL_eq, ↓Xx_lst, ↓kCb_eq, ↓kC_eq, ↓Xx_call, ↓Xx_nil, ↓kAb_eq, ↓kA_eq, ↓Xx_cons, ↓Xx_one, ↓kAnb_eq, ↓kAn_eq, ↓Xx_and, ↓kOrb_eq, ↓kOr_eq, ↓Xx_or, ↓kNob_eq, ↓kNo_eq, ↓Xx_not, ↓kIfb_eq, ↓kIf_eq, ↓Xx_if, ↓kTrb_eq, ↓kTr_eq, ↓Xt_cst, ↓Xt_var, ↓Xt_pk, ↓Xt_p1, ↓Xt_p2, ↓Xt_isi, ↓Xt_call, ↓Xt_slc, ↓kE_eq, ↓kIv_d, ↓Xi_val, ↓kRb_eq, ↓kR_eq, ↓Xi_rng1, ↓kEnb_eq, ↓kEn_d, ↓Xi_enu, ↓kAs_d, ↓Xy_asg, ↓kApc_eq, ↓kApb_d, ↓kAp_eq, ↓Xy_app, ↓kX_eq, ↓Xy_ex, ↓kRt_d, ↓Xy_ret, ↓Xy_retN, ↓kItb_eq, ↓kIt_eq, ↓Xy_ite, ↓kF_eq, ↓Xy_for1, ↓kFT_eq, ↓Xy_forT, sl_zero, sl_succ, sd_some, sp_some, sp_if, sp_ifn, sb_some, sf_some, si_some, si_if, sint_some, so_some, res_d, res_pk, tv_t_d, tv_f, resL_nil, resL_cons, fz_d, fz_p, q_neg, q_len_s, q_len_l, q_len_t, q_int, q_int_b, q_add, q_add_s, q_sub, q_mul, q_fdiv, q_mod, q_pow, q_lt, q_le, q_gt, q_ge, q_eq_i, q_eq_s, q_eq_b, q_ne_i, q_ne_s, q_ne_b, q_in_s, q_nin_s, q_is_n, q_is_i, q_is_s, q_is_l, q_is_t, q_nn_n, q_nn_i, q_nn_s, q_nn_l, q_nn_t, q_idx_l, q_idx_t, q_idx_s, q_sl_l, q_sl_s, shr_i, shr_b, shr_s, shr_n, shr_l, own_l, own_t, own_i, own_s, own_b, own_n, ownL_nil, ownL_cons, frz_l0, frz_l1, frz_t, frz_i, frz_s, frz_b, frz_n, frzL_nil, frzL_cons, at_0, at_1, at_2, disp_eq, it_l0, it_t, it_s, eno_s, eno_l, ty_ii, ty_ib, ty_is, ty_ss, ty_si, ty_bb, ty_bi, ty_ll, ty_tt, tr_b, tr_i, tr_l, dat_v, dat_l, dat_t, Option.bind_some, Option.map_some, Bool.or_false, Bool.false_or, Bool.true_and, List.set_cons_zero, List.set_cons_succ, if_true, if_false, Bool.false_eq_true, Bool.not_true, Bool.not_false, ↓reduceIte, List.map_cons, List.map_nil, List.cons_append, List.nil_append, List.replicate_succ, List.replicate_zero, List.length_cons, List.length_nil, Nat.reduceSub, Nat.reduceAdd, true_and, reduceCtorEq, false_and, false_or, or_false, exists_false, Nat.reduceLeDiff, Int.reduceLT, Int.reduceLE, Int.reduceNeg, decide_true, and_self, and_true, Int.toNat_natCast]
          refine ⟨some (.str r), o6, ?_⟩
          rw [part_succ hr, List.take_length]
      · rintro e ⟨o5, o6, rfl⟩
        rw [List.length_map, part_all]
        exact ⟨rfl, _, _, rfl⟩
    cases o with
    | false =>
      simp (config := {maxSteps := 4000000}) only [q_is_bb, q_nn_bb, q_eq_ns, q_eq_sn, q_eq_nn, q_ne_ns, q_ne_sn, q_ne_nn, q_in_t, q_in_l, q_nin_l, inL_strs, vB_some_, vNB_some_, ↓Xx_lc, ↓Xt_lc, ↓kLc_eq, ↓kLcR_eq, ↓kLe_d, ↓kLqb_eq, ↓kLq_eq, ↓lc_1, ↓lc_10, ↓lc_2, ↓lc_20, wipe_0, wipe_s, ↓kR2_eq, ↓kR2b_eq, ↓kR2c_eq, ↓kR2d_eq, ↓Xi_rng2, ↓kN_nx, ↓kN_rt, ↓kN_bk, ↓kN_ct, ↓Xy_skip, ↓Xy_seq, ↓kD_eq, ↓Xx_cst, ↓Xx_gc, ↓kV_eq, ↓Xx_var, ↓kM_eq, ↓Xx_mov, ↓kP_eq, ↓Xx_pk, ↓k1b_eq, ↓k1_eq, ↓Xx_p1, ↓k2d_eq, ↓k2c_eq, ↓k2b_eq, ↓k2_eq, ↓Xx_p2, ↓kIb_eq, ↓kI_eq, ↓Xx_isi, ↓kSd_eq, ↓kSc_eq, ↓kSb_eq, ↓kS_eq, ↓Xx_slc, ↓Xx_noE, ↓kOb_eq, ↓kO_eq, ↓Xx_so, ↓kTb_eq, ↓kT_eq, ↓Xx_tup, ↓kLb_eq, ↓kL_eq, ↓Xx_lst, ↓kCb_eq, ↓kC_eq, ↓Xx_call, ↓Xx_nil, ↓kAb_eq, ↓kA_eq, ↓Xx_cons, ↓Xx_one, ↓kAnb_eq, ↓kAn_eq, ↓Xx_and, ↓kOrb_eq, ↓kOr_eq, ↓Xx_or, ↓kNob_eq, ↓kNo_eq, ↓Xx_not, ↓kIfb_eq, ↓kIf_eq, ↓Xx_if, ↓kTrb_eq, ↓kTr_eq, ↓Xt_cst, ↓Xt_var, ↓Xt_pk, ↓Xt_p1, ↓Xt_p2, ↓Xt_isi, ↓Xt_call, ↓Xt_slc, ↓kE_eq, ↓kIv_d, ↓Xi_val, ↓kRb_eq, ↓kR_eq, ↓Xi_rng1, ↓kEnb_eq, ↓kEn_d, ↓Xi_enu, ↓kAs_d, ↓Xy_asg, ↓kApc_eq, ↓kApb_d, ↓kAp_eq, ↓Xy_app, ↓kX_eq, ↓Xy_ex, ↓kRt_d, ↓Xy_ret, ↓Xy_retN, ↓kItb_eq, ↓kIt_eq, ↓Xy_ite, ↓kF_eq, ↓Xy_for1, ↓kFT_eq, ↓Xy_forT, sl_zero, sl_succ, sd_some, sp_some, sp_if, sp_ifn, sb_some, sf_some, si_some, si_if, sint_some, so_some, res_d, res_pk, tv_t_d, tv_f, resL_nil, resL_cons, fz_d, fz_p, q_neg, q_len_s, q_len_l, q_len_t, q_int, q_int_b, q_add, q_add_s, q_sub, q_mul, q_fdiv, q_mod, q_pow, q_lt, q_le, q_gt, q_ge, q_eq_i, q_eq_s, q_eq_b, q_ne_i, q_ne_s, q_ne_b, q_in_s, q_nin_s, q_is_n, q_is_i, q_is_s, q_is_l, q_is_t, q_nn_n, q_nn_i, q_nn_s, q_nn_l, q_nn_t, q_idx_l, q_idx_t, q_idx_s, q_sl_l, q_sl_s, shr_i, shr_b, shr_s, shr_n, shr_l, own_l, own_t, own_i, own_s, own_b, own_n, ownL_nil, ownL_cons, frz_l0, frz_l1, frz_t, frz_i, frz_s, frz_b, frz_n, frzL_nil, frzL_cons, at_0, at_1, at_2, disp_eq, it_l0, it_t, it_s, eno_s, eno_l, ty_ii, ty_ib, ty_is, ty_ss, ty_si, ty_bb, ty_bi, ty_ll, ty_tt, tr_b, tr_i, tr_l, dat_v, dat_l, dat_t, Option.bind_some, Option.map_some, Bool.or_false, Bool.false_or, Bool.true_and, List.set_cons_zero, List.set_cons_succ, if_true, if_false, Bool.false_eq_true, Bool.not_true, Bool.not_false, ↓reduceIte, List.map_cons, List.map_nil, List.cons_append, List.nil_append, List.replicate_succ, List.replicate_zero, List.length_cons, List.length_nil, Nat.reduceSub, Nat.reduceAdd, true_and, reduceCtorEq, false_and, false_or, or_false, exists_false, Nat.reduceLeDiff, Int.reduceLT, Int.reduceLE, Int.reduceNeg, decide_true, and_self, and_true, Int.toNat_natCast, own_strs, frz_strs]
      refine (key _ (.inr rfl)).mono ?_
      rintro f e ⟨rfl, o5, o6, rfl⟩
      simp (config := {maxSteps := 4000000}) only [q_is_bb, q_nn_bb, q_eq_ns, q_eq_sn, q_eq_nn, q_ne_ns, q_ne_sn, q_ne_nn, q_in_t, q_in_l, q_nin_l, inL_strs, vB_some_, vNB_some_, ↓Xx_lc, ↓Xt_lc, ↓kLc_eq, ↓kLcR_eq, ↓kLe_d, ↓kLqb_eq, ↓kLq_eq, ↓lc_1, ↓lc_10, ↓lc_2, ↓lc_20, wipe_0, wipe_s, ↓kR2_eq, ↓kR2b_eq, ↓kR2c_eq, ↓kR2d_eq, ↓Xi_rng2, ↓kN_nx, ↓kN_rt, ↓kN_bk, ↓kN_ct, ↓Xy_skip, ↓Xy_seq, ↓kD_eq, ↓Xx_cst, ↓Xx_gc, ↓kV_eq, ↓Xx_var, ↓kM_eq, ↓Xx_mov, ↓kP_eq, ↓Xx_pk, ↓k1b_eq, ↓k1_eq, ↓Xx_p1, ↓k2d_eq, ↓k2c_eq, ↓k2b_eq, ↓k2_eq, ↓Xx_p2, ↓kIb_eq, ↓kI_eq, ↓Xx_isi, ↓kSd_eq, ↓kSc_eq, ↓kSb_eq, ↓kS_eq, ↓Xx_slc, ↓Xx_noE, ↓kOb_eq, ↓kO_eq, ↓Xx_so, ↓kTb_eq, ↓kT_eq, ↓Xx_tup, ↓kLb_eq, ↓kL_eq, ↓Xx_lst, ↓kCb_eq, ↓kC_eq, ↓Xx_call, ↓Xx_nil, ↓kAb_eq, ↓kA_eq, ↓Xx_cons, ↓Xx_one, ↓kAnb_eq, ↓kAn_eq, ↓Xx_and, ↓kOrb_eq, ↓kOr_eq, ↓Xx_or, ↓kNob_eq, ↓kNo_eq, ↓Xx_not, ↓kIfb_eq, ↓kIf_eq, ↓Xx_if, ↓kTrb_eq, ↓kTr_eq, ↓Xt_cst, ↓Xt_var, ↓Xt_pk, ↓Xt_p1, ↓Xt_p2, ↓Xt_isi, ↓Xt_call, ↓Xt_slc, ↓kE_eq, ↓kIv_d, ↓Xi_val, ↓kRb_eq, ↓kR_eq, ↓Xi_rng1, ↓kEnb_eq, ↓kEn_d, ↓Xi_enu, ↓kAs_d, ↓Xy_asg, ↓kApc_eq, ↓kApb_d, ↓kAp_eq, ↓Xy_app, ↓kX_eq, ↓Xy_ex, ↓kRt_d, ↓Xy_ret, ↓Xy_retN, ↓kItb_eq, ↓kIt_eq, ↓Xy_ite, ↓kF_eq, ↓Xy_for1, ↓kFT_eq, ↓Xy_forT, sl_zero, sl_succ, sd_some, sp_some, sp_if, sp_ifn, sb_some, sf_some, si_some, si_if, sint_some, so_some, res_d, res_pk, tv_t_d, tv_f, resL_nil, resL_cons, fz_d, fz_p, q_neg, q_len_s, q_len_l, q_len_t, q_int, q_int_b, q_add, q_add_s, q_sub, q_mul, q_fdiv, q_mod, q_pow, q_lt, q_le, q_gt, q_ge, q_eq_i, q_eq_s, q_eq_b, q_ne_i, q_ne_s, q_ne_b, q_in_s, q_nin_s, q_is_n, q_is_i, q_is_s, q_is_l, q_is_t, q_nn_n, q_nn_i, q_nn_s, q_nn_l, q_nn_t, q_idx_l, q_idx_t, q_idx_s, q_sl_l, q_sl_s, shr_i, shr_b, shr_s, shr_n, shr_l, own_l, own_t, own_i, own_s, own_b, own_n, ownL_nil, ownL_cons, frz_l0, frz_l1, frz_t, frz_i, frz_s, frz_b, frz_n, frzL_nil, frzL_cons, at_0, at_1, at_2, disp_eq, it_l0, it_t, it_s, eno_s, eno_l, ty_ii, ty_ib, ty_is, ty_ss, ty_si, ty_bb, ty_bi, ty_ll, ty_tt, tr_b, tr_i, tr_l, dat_v, dat_l, dat_t, Option.bind_some, Option.map_some, Bool.or_false, Bool.false_or, Bool.true_and, List.set_cons_zero, List.set_cons_succ, if_true, if_false, Bool.false_eq_true, Bool.not_true, Bool.not_false, ↓reduceIte, List.map_cons, List.map_nil, List.cons_append, List.nil_append, List.replicate_succ, List.replicate_zero, List.length_cons, List.length_nil, Nat.reduceSub, Nat.reduceAdd, true_and, reduceCtorEq, false_and, false_or, or_false, exists_false, Nat.reduceLeDiff, Int.reduceLT, Int.reduceLE, Int.reduceNeg, decide_true, and_self, and_true, Int.toNat_natCast, own_strs, frz_strs]
      exact ⟨_, _, _, _, _, rfl⟩
    | true =>
      simp (config := {maxSteps := 4000000}) only [q_is_bb, q_nn_bb, q_eq_ns, q_eq_sn, q_eq_nn, q_ne_ns, q_ne_sn, q_ne_nn, q_in_t, q_in_l, q_nin_l, inL_strs, vB_some_, vNB_some_, ↓Xx_lc, ↓Xt_lc, ↓kLc_eq, ↓kLcR_eq, ↓kLe_d, ↓kLqb_eq, ↓kLq_eq, ↓lc_1, ↓lc_10, ↓lc_2, ↓lc_20, wipe_0, wipe_s, ↓kR2_eq, ↓kR2b_eq, ↓kR2c_eq, ↓kR2d_eq, ↓Xi_rng2, ↓kN_nx, ↓kN_rt, ↓kN_bk, ↓kN_ct, ↓Xy_skip, ↓Xy_seq, ↓kD_eq, ↓Xx_cst, ↓Xx_gc, ↓kV_eq, ↓Xx_var, ↓kM_eq, ↓Xx_mov, ↓kP_eq, ↓Xx_pk, ↓k1b_eq, ↓k1_eq, ↓Xx_p1, ↓k2d_eq, ↓k2c_eq, ↓k2b_eq, ↓k2_eq, ↓Xx_p2, ↓kIb_eq, ↓kI_eq, ↓Xx_isi, ↓kSd_eq, ↓kSc_eq, ↓kSb_eq, ↓kS_eq, ↓Xx_slc, ↓Xx_noE, ↓kOb_eq, ↓kO_eq, ↓Xx_so, ↓kTb_eq, ↓kT_eq, ↓Xx_tup, ↓kLb_eq, ↓kL_eq, ↓Xx_lst, ↓kCb_eq, ↓kC_eq, ↓Xx_call, ↓Xx_nil, ↓kAb_eq, ↓kA_eq, ↓Xx_cons, ↓Xx_one, ↓kAnb_eq, ↓kAn_eq, ↓Xx_and, ↓kOrb_eq, ↓kOr_eq, ↓Xx_or, ↓kNob_eq, ↓kNo_eq, ↓Xx_not, ↓kIfb_eq, ↓kIf_eq, ↓Xx_if, ↓kTrb_eq, ↓kTr_eq, ↓Xt_cst, ↓Xt_var, ↓Xt_pk, ↓Xt_p1, ↓Xt_p2, ↓Xt_isi, ↓Xt_call, ↓Xt_slc, ↓kE_eq, ↓kIv_d, ↓Xi_val, ↓kRb_eq, ↓kR_eq, ↓Xi_rng1, ↓kEnb_eq, ↓kEn_d, ↓Xi_enu, ↓kAs_d, ↓Xy_asg, ↓kApc_eq, ↓kApb_d, ↓kAp_eq, ↓Xy_app, ↓kX_eq, ↓Xy_ex, ↓kRt_d, ↓Xy_ret, ↓Xy_retN, ↓kItb_eq, ↓kIt_eq, ↓Xy_ite, ↓kF_eq, ↓Xy_for1, ↓kFT_eq, ↓Xy_forT, sl_zero, sl_succ, sd_some, sp_some, sp_if, sp_ifn, sb_some, sf_some, si_some, si_if, sint_some, so_some, res_d, res_pk, tv_t_d, tv_f, resL_nil, resL_cons, fz_d, fz_p, q_neg, q_len_s, q_len_l, q_len_t, q_int, q_int_b, q_add, q_add_s, q_sub, q_mul, q_fdiv, q_mod, q_pow, q_lt, q_le, q_gt, q_ge, q_eq_i, q_eq_s, q_eq_b, q_ne_i, q_ne_s, q_ne_b, q_in_s, q_nin_s, q_is_n, q_is_i, q_is_s, q_is_l, q_is_t, q_nn_n, q_nn_i, q_nn_s, q_nn_l, q_nn_t, q_idx_l, q_idx_t, q_idx_s, q_sl_l, q_sl_s, shr_i, shr_b, shr_s, shr_n, shr_l, own_l, own_t, own_i, own_s, own_b, own_n, ownL_nil, ownL_cons, frz_l0, frz_l1, frz_t, frz_i, frz_s, frz_b, frz_n, frzL_nil, frzL_cons, at_0, at_1, at_2, disp_eq, it_l0, it_t, it_s, eno_s, eno_l, ty_ii, ty_ib, ty_is, ty_ss, ty_si, ty_bb, ty_bi, ty_ll, ty_tt, tr_b, tr_i, tr_l, dat_v, dat_l, dat_t, Option.bind_some, Option.map_some, Bool.or_false, Bool.false_or, Bool.true_and, List.set_cons_zero, List.set_cons_succ, if_true, if_false, Bool.false_eq_true, Bool.not_true, Bool.not_false, ↓reduceIte, List.map_cons, List.map_nil, List.cons_append, List.nil_append, List.replicate_succ, List.replicate_zero, List.length_cons, List.length_nil, Nat.reduceSub, Nat.reduceAdd, true_and, reduceCtorEq, false_and, false_or, or_false, exists_false, Nat.reduceLeDiff, Int.reduceLT, Int.reduceLE, Int.reduceNeg, decide_true, and_self, and_true, Int.toNat_natCast, own_strs, frz_strs]
      refine (key _ (.inr rfl)).mono ?_
      rintro f e ⟨rfl, o5, o6, rfl⟩
      simp (config := {maxSteps := 4000000}) only [q_is_bb, q_nn_bb, q_eq_ns, q_eq_sn, q_eq_nn, q_ne_ns, q_ne_sn, q_ne_nn, q_in_t, q_in_l, q_nin_l, inL_strs, vB_some_, vNB_some_, ↓Xx_lc, ↓Xt_lc, ↓kLc_eq, ↓kLcR_eq, ↓kLe_d, ↓kLqb_eq, ↓kLq_eq, ↓lc_1, ↓lc_10, ↓lc_2, ↓lc_20, wipe_0, wipe_s, ↓kR2_eq, ↓kR2b_eq, ↓kR2c_eq, ↓kR2d_eq, ↓Xi_rng2, ↓kN_nx, ↓kN_rt, ↓kN_bk, ↓kN_ct, ↓Xy_skip, ↓Xy_seq, ↓kD_eq, ↓Xx_cst, ↓Xx_gc, ↓kV_eq, ↓Xx_var, ↓kM_eq, ↓Xx_mov, ↓kP_eq, ↓Xx_pk, ↓k1b_eq, ↓k1_eq, ↓Xx_p1, ↓k2d_eq, ↓k2c_eq, ↓k2b_eq, ↓k2_eq, ↓Xx_p2, ↓kIb_eq, ↓kI_eq, ↓Xx_isi, ↓kSd_eq, ↓kSc_eq, ↓kSb_eq, ↓kS_eq, ↓Xx_slc, ↓Xx_noE, ↓kOb_eq, ↓kO_eq, ↓Xx_so, ↓kTb_eq, ↓kT_eq, ↓Xx_tup, ↓kLb_eq, ↓kL_eq, ↓Xx_lst, ↓kCb_eq, ↓kC_eq, ↓Xx_call, ↓Xx_nil, ↓kAb_eq, ↓kA_eq, ↓Xx_cons, ↓Xx_one, ↓kAnb_eq, ↓kAn_eq, ↓Xx_and, ↓kOrb_eq, ↓kOr_eq, ↓Xx_or, ↓kNob_eq, ↓kNo_eq, ↓Xx_not, ↓kIfb_eq, ↓kIf_eq, ↓Xx_if, ↓kTrb_eq, ↓kTr_eq, ↓Xt_cst, ↓Xt_var, ↓Xt_pk, ↓Xt_p1, ↓Xt_p2, ↓Xt_isi, ↓Xt_call, ↓Xt_slc, ↓kE_eq, ↓kIv_d, ↓Xi_val, ↓kRb_eq, ↓kR_eq, ↓Xi_rng1, ↓kEnb_eq, ↓kEn_d, ↓Xi_enu, ↓kAs_d, ↓Xy_asg, ↓kApc_eq, ↓kApb_d, ↓kAp_eq, ↓Xy_app, ↓kX_eq, ↓Xy_ex, ↓kRt_d, ↓Xy_ret, ↓Xy_retN, ↓kItb_eq, ↓kIt_eq, ↓Xy_ite, ↓kF_eq, ↓Xy_for1, ↓kFT_eq, ↓Xy_forT, sl_zero, sl_succ, sd_some, sp_some, sp_if, sp_ifn, sb_some, sf_some, si_some, si_if, sint_some, so_some, res_d, res_pk, tv_t_d, tv_f, resL_nil, resL_cons, fz_d, fz_p, q_neg, q_len_s, q_len_l, q_len_t, q_int, q_int_b, q_add, q_add_s, q_sub, q_mul, q_fdiv, q_mod, q_pow, q_lt, q_le, q_gt, q_ge, q_eq_i, q_eq_s, q_eq_b, q_ne_i, q_ne_s, q_ne_b, q_in_s, q_nin_s, q_is_n, q_is_i, q_is_s, q_is_l, q_is_t, q_nn_n, q_nn_i, q_nn_s, q_nn_l, q_nn_t, q_idx_l, q_idx_t, q_idx_s, q_sl_l, q_sl_s, shr_i, shr_b, shr_s, shr_n, shr_l, own_l, own_t, own_i, own_s, own_b, own_n, ownL_nil, ownL_cons, frz_l0, frz_l1, frz_t, frz_i, frz_s, frz_b, frz_n, frzL_nil, frzL_cons, at_0, at_1, at_2, disp_eq, it_l0, it_t, it_s, eno_s, eno_l, ty_ii, ty_ib, ty_is, ty_ss, ty_si, ty_bb, ty_bi, ty_ll, ty_tt, tr_b, tr_i, tr_l, dat_v, dat_l, dat_t, Option.bind_some, Option.map_some, Bool.or_false, Bool.false_or, Bool.true_and, List.set_cons_zero, List.set_cons_succ, if_true, if_false, Bool.false_eq_true, Bool.not_true, Bool.not_false, ↓reduceIte, List.map_cons, List.map_nil, List.cons_append, List.nil_append, List.replicate_succ, List.replicate_zero, List.length_cons, List.length_nil, Nat.reduceSub, Nat.reduceAdd, true_and, reduceCtorEq, false_and, false_or, or_false, exists_false, Nat.reduceLeDiff, Int.reduceLT, Int.reduceLE, Int.reduceNeg, decide_true, and_self, and_true, Int.toNat_natCast, own_strs, frz_strs]
      exact ⟨_, _, _, _, _, rfl⟩
  · rintro e ⟨o, o3, o4, o5, o6, rfl⟩
    rw [List.length_map, List.length_range]
    simp (config := {maxSteps := 4000000}) only [q_is_bb, q_nn_bb, q_eq_ns, q_eq_sn, q_eq_nn, q_ne_ns, q_ne_sn, q_ne_nn, q_in_t, q_in_l, q_nin_l, inL_strs, vB_some_, vNB_some_, ↓Xx_lc, ↓Xt_lc, ↓kLc_eq, ↓kLcR_eq, ↓kLe_d, ↓kLqb_eq, ↓kLq_eq, ↓lc_1, ↓lc_10, ↓lc_2, ↓lc_20, wipe_0, wipe_s, ↓kR2_eq, ↓kR2b_eq, ↓kR2c_eq, ↓kR2d_eq, ↓Xi_rng2, ↓kN_nx, ↓kN_rt, ↓kN_bk, ↓kN_ct, ↓Xy_skip, ↓Xy_seq, ↓kD_eq, ↓Xx_cst, ↓Xx_gc, ↓kV_eq, ↓Xx_var, ↓kM_eq, ↓Xx_mov, ↓kP_eq, ↓Xx_pk, ↓k1b_eq, ↓k1_eq, ↓Xx_p1, ↓k2d_eq, ↓k2c_eq, ↓k2b_eq, ↓k2_eq, ↓Xx_p2, ↓kIb_eq, ↓kI_eq, ↓Xx_isi, ↓kSd_eq, ↓kSc_eq, ↓kSb_eq, ↓kS_eq, ↓Xx_slc, ↓Xx_noE, ↓kOb_eq, ↓kO_eq, ↓Xx_so, ↓kTb_eq, ↓kT_eq, ↓Xx_tup, ↓kLb_eq, ↓kL_eq, ↓Xx_lst, ↓kCb_eq, ↓kC_eq, ↓Xx_call, ↓Xx_nil, ↓kAb_eq, ↓kA_eq, ↓Xx_cons, ↓Xx_one, ↓kAnb_eq, ↓kAn_eq, ↓Xx_and, ↓kOrb_eq, ↓kOr_eq, ↓Xx_or, ↓kNob_eq, ↓kNo_eq, ↓Xx_not, ↓kIfb_eq, ↓kIf_eq, ↓Xx_if, ↓kTrb_eq, ↓kTr_eq, ↓Xt_cst, ↓Xt_var, ↓Xt_pk, ↓Xt_p1, ↓Xt_p2, ↓Xt_isi, ↓Xt_call, ↓Xt_slc, ↓kE_eq, ↓kIv_d, ↓Xi_val, ↓kRb_eq, ↓kR_eq, ↓Xi_rng1, ↓kEnb_eq, ↓kEn_d, ↓Xi_enu, ↓kAs_d, ↓Xy_asg, ↓kApc_eq, ↓kApb_d, ↓kAp_eq, ↓Xy_app, ↓kX_eq, ↓Xy_ex, ↓kRt_d, ↓Xy_ret, ↓Xy_retN, ↓kItb_eq, ↓kIt_eq, ↓Xy_ite, ↓kF_eq, ↓Xy_for1, ↓kFT_eq, ↓Xy_forT, sl_zero, sl_succ, sd_some, sp_some, sp_if, sp_ifn, sb_some, sf_some, si_some, si_if, sint_some, so_some, res_d, res_pk, tv_t_d, tv_f, resL_nil, resL_cons, fz_d, fz_p, q_neg, q_len_s, q_len_l, q_len_t, q_int, q_int_b, q_add, q_add_s, q_sub, q_mul, q_fdiv, q_mod, q_pow, q_lt, q_le, q_gt, q_ge, q_eq_i, q_eq_s, q_eq_b, q_ne_i, q_ne_s, q_ne_b, q_in_s, q_nin_s, q_is_n, q_is_i, q_is_s, q_is_l, q_is_t, q_nn_n, q_nn_i, q_nn_s, q_nn_l, q_nn_t, q_idx_l, q_idx_t, q_idx_s, q_sl_l, q_sl_s, shr_i, shr_b, shr_s, shr_n, shr_l, own_l, own_t, own_i, own_s, own_b, own_n, ownL_nil, ownL_cons, frz_l0, frz_l1, frz_t, frz_i, frz_s, frz_b, frz_n, frzL_nil, frzL_cons, at_0, at_1, at_2, disp_eq, it_l0, it_t, it_s, eno_s, eno_l, ty_ii, ty_ib, ty_is, ty_ss, ty_si, ty_bb, ty_bi, ty_ll, ty_tt, tr_b, tr_i, tr_l, dat_v, dat_l, dat_t, Option.bind_some, Option.map_some, Bool.or_false, Bool.false_or, Bool.true_and, List.set_cons_zero, List.set_cons_succ, if_true, if_false, Bool.false_eq_true, Bool.not_true, Bool.not_false, ↓reduceIte, List.map_cons, List.map_nil, List.cons_append, List.nil_append, List.replicate_succ, List.replicate_zero, List.length_cons, List.length_nil, Nat.reduceSub, Nat.reduceAdd, true_and, reduceCtorEq, false_and, false_or, or_false, exists_false, Nat.reduceLeDiff, Int.reduceLT, Int.reduceLE, Int.reduceNeg, decide_true, and_self, and_true, Int.toNat_natCast]
    refine ⟨_, rfl, o, ?_⟩
    simp
theorem r_in (n : Nat) (c d : List Nat) (hl : c.length = d.length) (hs : c.length ≤ 1000) : OI.run gcs tab (n + 1) 11 [.str c, .str d] = some (.ok (.bl (ins c d))) := by
  refine run_rt (d := d11) rfl rfl ?_
  simp (config := {maxSteps := 4000000}) only [q_is_bb, q_nn_bb, q_eq_ns, q_eq_sn, q_eq_nn, q_ne_ns, q_ne_sn, q_ne_nn, q_in_t, q_in_l, q_nin_l, inL_strs, vB_some_, vNB_some_, ↓Xx_lc, ↓Xt_lc, ↓kLc_eq, ↓kLcR_eq, ↓kLe_d, ↓kLqb_eq, ↓kLq_eq, ↓lc_1, ↓lc_10, ↓lc_2, ↓lc_20, wipe_0, wipe_s, ↓kR2_eq, ↓kR2b_eq, ↓kR2c_eq, ↓kR2d_eq, ↓Xi_rng2, ↓kN_nx, ↓kN_rt, ↓kN_bk, ↓kN_ct, ↓Xy_skip, ↓Xy_seq, ↓kD_eq, ↓Xx_cst, ↓Xx_gc, ↓kV_eq, ↓Xx_var, ↓kM_eq, ↓Xx_mov, ↓kP_eq, ↓Xx_pk, ↓k1b_eq, ↓k1_eq, ↓Xx_p1, ↓k2d_eq, ↓k2c_eq, ↓k2b_eq, ↓k2_eq, ↓Xx_p2, ↓kIb_eq, ↓kI_eq, ↓Xx_isi, ↓kSd_eq, ↓kSc_eq, ↓kSb_eq, ↓kS_eq, ↓Xx_slc, ↓Xx_noE, ↓kOb_eq, ↓kO_eq, ↓Xx_so, ↓kTb_eq, ↓kT_eq, ↓Xx_tup, ↓kLb_eq, ↓kL_eq, ↓Xx_lst, ↓kCb_eq, ↓kC_eq, ↓Xx_call, ↓Xx_nil, ↓kAb_eq, ↓kA_eq, ↓Xx_cons, ↓Xx_one, ↓kAnb_eq, ↓kAn_eq, ↓Xx_and, ↓kOrb_eq, ↓kOr_eq, ↓Xx_or, ↓kNob_eq, ↓kNo_eq, ↓Xx_not, ↓kIfb_eq, ↓kIf_eq, ↓Xx_if, ↓kTrb_eq, ↓kTr_eq, ↓Xt_cst, ↓Xt_var, ↓Xt_pk, ↓Xt_p1, ↓Xt_p2, ↓Xt_isi, ↓Xt_call, ↓Xt_slc, ↓kE_eq, ↓kIv_d, ↓Xi_val, ↓kRb_eq, ↓kR_eq, ↓Xi_rng1, ↓kEnb_eq, ↓kEn_d, ↓Xi_enu, ↓kAs_d, ↓Xy_asg, ↓kApc_eq, ↓kApb_d, ↓kAp_eq, ↓Xy_app, ↓kX_eq, ↓Xy_ex, ↓kRt_d, ↓Xy_ret, ↓Xy_retN, ↓kItb_eq, ↓kIt_eq, ↓Xy_ite, ↓kF_eq, ↓Xy_for1, ↓kFT_eq, ↓Xy_forT, sl_zero, sl_succ, sd_some, sp_some, sp_if, sp_ifn, sb_some, sf_some, si_some, si_if, sint_some, so_some, res_d, res_pk, tv_t_d, tv_f, resL_nil, resL_cons, fz_d, fz_p, q_neg, q_len_s, q_len_l, q_len_t, q_int, q_int_b, q_add, q_add_s, q_sub, q_mul, q_fdiv, q_mod, q_pow, q_lt, q_le, q_gt, q_ge, q_eq_i, q_eq_s, q_eq_b, q_ne_i, q_ne_s, q_ne_b, q_in_s, q_nin_s, q_is_n, q_is_i, q_is_s, q_is_l, q_is_t, q_nn_n, q_nn_i, q_nn_s, q_nn_l, q_nn_t, q_idx_l, q_idx_t, q_idx_s, q_sl_l, q_sl_s, shr_i, shr_b, shr_s, shr_n, shr_l, own_l, own_t, own_i, own_s, own_b, own_n, ownL_nil, ownL_cons, frz_l0, frz_l1, frz_t, frz_i, frz_s, frz_b, frz_n, frzL_nil, frzL_cons, at_0, at_1, at_2, disp_eq, it_l0, it_t, it_s, eno_s, eno_l, ty_ii, ty_ib, ty_is, ty_ss, ty_si, ty_bb, ty_bi, ty_ll, ty_tt, tr_b, tr_i, tr_l, dat_v, dat_l, dat_t, Option.bind_some, Option.map_some, Bool.or_false, Bool.false_or, Bool.true_and, List.set_cons_zero, List.set_cons_succ, if_true, if_false, Bool.false_eq_true, Bool.not_true, Bool.not_false, ↓reduceIte, List.map_cons, List.map_nil, List.cons_append, List.nil_append, List.replicate_succ, List.replicate_zero, List.length_cons, List.length_nil, Nat.reduceSub, Nat.reduceAdd, true_and, reduceCtorEq, false_and, false_or, or_false, exists_false, Nat.reduceLeDiff, Int.reduceLT, Int.reduceLE, Int.reduceNeg, decide_true, and_self, and_true, Int.toNat_natCast, d11, c11]
  refine ⟨⟨by omega, by omega⟩, ?_⟩
  refine for_ret (fun i e => ∃ o2, e = [some (.str c), some (.str d), o2] ∧ ∀ (j : Nat), j < i → ∀ a b, c[j]? = some a → d[j]? = some b → a = 45 ∨ a = b) (fun r => r = .bl (ins c d)) ⟨none, rfl, fun j hj => by omega⟩ ?_ ?_ ?_
  · rintro i x e hx ⟨o2, rfl, hi⟩
    obtain ⟨hi', rfl⟩ := rng_get hx
    have hi' : i < c.length := by simpa using hi'
    obtain ⟨a, hc⟩ := get_ex (s := c) (k := i) (by omega)
    obtain ⟨b, hb⟩ := get_ex (s := d) (k := i) (by omega)
    rw [lp1_eq]
    simp (config := {maxSteps := 4000000}) only [q_is_bb, q_nn_bb, q_eq_ns, q_eq_sn, q_eq_nn, q_ne_ns, q_ne_sn, q_ne_nn, q_in_t, q_in_l, q_nin_l, inL_strs, vB_some_, vNB_some_, ↓Xx_lc, ↓Xt_lc, ↓kLc_eq, ↓kLcR_eq, ↓kLe_d, ↓kLqb_eq, ↓kLq_eq, ↓lc_1, ↓lc_10, ↓lc_2, ↓lc_20, wipe_0, wipe_s, ↓kR2_eq, ↓kR2b_eq, ↓kR2c_eq, ↓kR2d_eq, ↓Xi_rng2, ↓kN_nx, ↓kN_rt, ↓kN_bk, ↓kN_ct, ↓Xy_skip, ↓Xy_seq, ↓kD_eq, ↓Xx_cst, ↓Xx_gc, ↓kV_eq, ↓Xx_var, ↓kM_eq, ↓Xx_mov, ↓kP_eq, ↓Xx_pk, ↓k1b_eq, ↓k1_eq, ↓Xx_p1, ↓k2d_eq, ↓k2c_eq, ↓k2b_eq, ↓k2_eq, ↓Xx_p2, ↓kIb_eq, ↓kI_eq, ↓Xx_isi, ↓kSd_eq, ↓kSc_eq, ↓kSb_eq, ↓kS_eq, ↓Xx_slc, ↓Xx_noE, ↓kOb_eq, ↓kO_eq, ↓Xx_so, ↓kTb_eq, ↓kT_eq, ↓Xx_tup, ↓kLb_eq, ↓kL_eq, ↓Xx_lst, ↓kCb_eq, ↓kC_eq, ↓Xx_call, ↓Xx_nil, ↓kAb_eq, ↓kA_eq, ↓Xx_cons, ↓Xx_one, ↓kAnb_eq, ↓kAn_eq, ↓Xx_and, ↓kOrb_eq, ↓kOr_eq, ↓Xx_or, ↓kNob_eq, ↓kNo_eq, ↓Xx_not, ↓kIfb_eq, ↓kIf_eq, ↓Xx_if, ↓kTrb_eq, ↓kTr_eq, ↓Xt_cst, ↓Xt_var, ↓Xt_pk, ↓Xt_p1, ↓Xt_p2, ↓Xt_isi, ↓Xt_call, ↓Xt_slc, ↓kE_eq, ↓kIv_d, ↓Xi_val, ↓kRb_eq, ↓kR_eq, ↓Xi_rng1, ↓kEnb_eq, ↓kEn_d, ↓Xi_enu, ↓kAs_d, ↓Xy_asg, ↓kApc_eq, ↓kApb_d, ↓kAp_eq, ↓Xy_app, ↓kX_eq, ↓Xy_ex, ↓kRt_d, ↓Xy_ret, ↓Xy_retN, ↓kItb_eq, ↓kIt_eq, ↓Xy_ite, ↓kF_eq, ↓Xy_for1, ↓kFT_eq, ↓Xy_forT, sl_zero, sl_succ, sd_some, sp_some, sp_if, sp_ifn, sb_some, sf_some, si_some, si_if, sint_some, so_some, res_d, res_pk, tv_t_d, tv_f, resL_nil, resL_cons, fz_d, fz_p, q_neg, q_len_s, q_len_l, q_len_t, q_int, q_int_b, q_add, q_add_s, q_sub, q_mul, q_fdiv, q_mod, q_pow, q_lt, q_le, q_gt, q_ge, q_eq_i, q_eq_s, q_eq_b, q_ne_i, q_ne_s, q_ne_b, q_in_s, q_nin_s, q_is_n, q_is_i, q_is_s, q_is_l, q_is_t, q_nn_n, q_nn_i, q_nn_s, q_nn_l, q_nn_t, q_idx_l, q_idx_t, q_idx_s, q_sl_l, q_sl_s, shr_i, shr_b, shr_s, shr_n, shr_l, own_l, own_t, own_i, own_s, own_b, own_n, ownL_nil, ownL_cons, frz_l0, frz_l1, frz_t, frz_i, frz_s, frz_b, frz_n, frzL_nil, frzL_cons, at_0, at_1, at_2, disp_eq, it_l0, it_t, it_s, eno_s, eno_l, ty_ii, ty_ib, ty_is, ty_ss, ty_si, ty_bb, ty_bi, ty_ll, ty_tt, tr_b, tr_i, tr_l, dat_v, dat_l, dat_t, Option.bind_some, Option.map_some, Bool.or_false, Bool.false_or, Bool.true_and, List.set_cons_zero, List.set_cons_succ, if_true, if_false, Bool.false_eq_true, Bool.not_true, Bool.not_false, ↓reduceIte, List.map_cons, List.map_nil, List.cons_append, List.nil_append, List.replicate_succ, List.replicate_zero, List.length_cons, List.length_nil, Nat.reduceSub, Nat.reduceAdd, true_and, reduceCtorEq, false_and, false_or, or_false, exists_false, Nat.reduceLeDiff, Int.reduceLT, Int.reduceLE, Int.reduceNeg, decide_true, and_self, and_true, Int.toNat_natCast, at_nat hc, at_nat hb]
    refine ite2 (fun h => ite2 (fun h2 => ?_) (fun h2 => ?_)) (fun h => ?_)
    · have h : ¬ a = 45 := by simpa using h
      have h2 : ¬ a = b := by simpa using h2
      refine ⟨_, rfl, ?_⟩
      rw [ins_no hl hc hb (by omega)]
    · have h2 : a = b := by simpa using h2
      refine ⟨_, rfl, fun j hj a' b' ha' hb' => ?_⟩
      by_cases e : j = i
      · subst e; rw [hc] at ha'; rw [hb] at hb'; cases ha'; cases hb'; exact .inr h2
      · exact hi j (by omega) a' b' ha' hb'
    · have h : a = 45 := by simpa using h
      refine ⟨_, rfl, fun j hj a' b' ha' hb' => ?_⟩
      by_cases e : j = i
      · subst e; rw [hc] at ha'; cases ha'; exact .inl h
      · exact hi j (by omega) a' b' ha' hb'
  · rintro e ⟨o2, rfl, hi⟩
    rw [List.length_map, List.length_range] at hi
    simp (config := {maxSteps := 4000000}) only [q_is_bb, q_nn_bb, q_eq_ns, q_eq_sn, q_eq_nn, q_ne_ns, q_ne_sn, q_ne_nn, q_in_t, q_in_l, q_nin_l, inL_strs, vB_some_, vNB_some_, ↓Xx_lc, ↓Xt_lc, ↓kLc_eq, ↓kLcR_eq, ↓kLe_d, ↓kLqb_eq, ↓kLq_eq, ↓lc_1, ↓lc_10, ↓lc_2, ↓lc_20, wipe_0, wipe_s, ↓kR2_eq, ↓kR2b_eq, ↓kR2c_eq, ↓kR2d_eq, ↓Xi_rng2, ↓kN_nx, ↓kN_rt, ↓kN_bk, ↓kN_ct, ↓Xy_skip, ↓Xy_seq, ↓kD_eq, ↓Xx_cst, ↓Xx_gc, ↓kV_eq, ↓Xx_var, ↓kM_eq, ↓Xx_mov, ↓kP_eq, ↓Xx_pk, ↓k1b_eq, ↓k1_eq, ↓Xx_p1, ↓k2d_eq, ↓k2c_eq, ↓k2b_eq, ↓k2_eq, ↓Xx_p2, ↓kIb_eq, ↓kI_eq, ↓Xx_isi, ↓kSd_eq, ↓kSc_eq, ↓kSb_eq, ↓kS_eq, ↓Xx_slc, ↓Xx_noE, ↓kOb_eq, ↓kO_eq, ↓Xx_so, ↓kTb_eq, ↓kT_eq, ↓Xx_tup, ↓kLb_eq, ↓kL_eq, ↓Xx_lst, ↓kCb_eq, ↓kC_eq, ↓Xx_call, ↓Xx_nil, ↓kAb_eq, ↓kA_eq, ↓Xx_cons, ↓Xx_one, ↓kAnb_eq, ↓kAn_eq, ↓Xx_and, ↓kOrb_eq, ↓kOr_eq, ↓Xx_or, ↓kNob_eq, ↓kNo_eq, ↓Xx_not, ↓kIfb_eq, ↓kIf_eq, ↓Xx_if, ↓kTrb_eq, ↓kTr_eq, ↓Xt_cst, ↓Xt_var, ↓Xt_pk, ↓Xt_p1, ↓Xt_p2, ↓Xt_isi, ↓Xt_call, ↓Xt_slc, ↓kE_eq, ↓kIv_d, ↓Xi_val, ↓kRb_eq, ↓kR_eq, ↓Xi_rng1, ↓kEnb_eq, ↓kEn_d, ↓Xi_enu, ↓kAs_d, ↓Xy_asg, ↓kApc_eq, ↓kApb_d, ↓kAp_eq, ↓Xy_app, ↓kX_eq, ↓Xy_ex, ↓kRt_d, ↓Xy_ret, ↓Xy_retN, ↓kItb_eq, ↓kIt_eq, ↓Xy_ite, ↓kF_eq, ↓Xy_for1, ↓kFT_eq, ↓Xy_forT, sl_zero, sl_succ, sd_some, sp_some, sp_if, sp_ifn, sb_some, sf_some, si_some, si_if, sint_some, so_some, res_d, res_pk, tv_t_d, tv_f, resL_nil, resL_cons, fz_d, fz_p, q_neg, q_len_s, q_len_l, q_len_t, q_int, q_int_b, q_add, q_add_s, q_sub, q_mul, q_fdiv, q_mod, q_pow, q_lt, q_le, q_gt, q_ge, q_eq_i, q_eq_s, q_eq_b, q_ne_i, q_ne_s, q_ne_b, q_in_s, q_nin_s, q_is_n, q_is_i, q_is_s, q_is_l, q_is_t, q_nn_n, q_nn_i, q_nn_s, q_nn_l, q_nn_t, q_idx_l, q_idx_t, q_idx_s, q_sl_l, q_sl_s, shr_i, shr_b, shr_s, shr_n, shr_l, own_l, own_t, own_i, own_s, own_b, own_n, ownL_nil, ownL_cons, frz_l0, frz_l1, frz_t, frz_i, frz_s, frz_b, frz_n, frzL_nil, frzL_cons, at_0, at_1, at_2, disp_eq, it_l0, it_t, it_s, eno_s, eno_l, ty_ii, ty_ib, ty_is, ty_ss, ty_si, ty_bb, ty_bi, ty_ll, ty_tt, tr_b, tr_i, tr_l, dat_v, dat_l, dat_t, Option.bind_some, Option.map_some, Bool.or_false, Bool.false_or, Bool.true_and, List.set_cons_zero, List.set_cons_succ, if_true, if_false, Bool.false_eq_true, Bool.not_true, Bool.not_false, ↓reduceIte, List.map_cons, List.map_nil, List.cons_append, List.nil_append, List.replicate_succ, List.replicate_zero, List.length_cons, List.length_nil, Nat.reduceSub, Nat.reduceAdd, true_and, reduceCtorEq, false_and, false_or, or_false, exists_false, Nat.reduceLeDiff, Int.reduceLT, Int.reduceLE, Int.reduceNeg, decide_true, and_self, and_true, Int.toNat_natCast]
    rw [ins_yes hl (fun j hj => hi j (by simpa using hj))]
  · rintro r e rfl
    simp (config := {maxSteps := 4000000}) only [q_is_bb, q_nn_bb, q_eq_ns, q_eq_sn, q_eq_nn, q_ne_ns, q_ne_sn, q_ne_nn, q_in_t, q_in_l, q_nin_l, inL_strs, vB_some_, vNB_some_, ↓Xx_lc, ↓Xt_lc, ↓kLc_eq, ↓kLcR_eq, ↓kLe_d, ↓kLqb_eq, ↓kLq_eq, ↓lc_1, ↓lc_10, ↓lc_2, ↓lc_20, wipe_0, wipe_s, ↓kR2_eq, ↓kR2b_eq, ↓kR2c_eq, ↓kR2d_eq, ↓Xi_rng2, ↓kN_nx, ↓kN_rt, ↓kN_bk, ↓kN_ct, ↓Xy_skip, ↓Xy_seq, ↓kD_eq, ↓Xx_cst, ↓Xx_gc, ↓kV_eq, ↓Xx_var, ↓kM_eq, ↓Xx_mov, ↓kP_eq, ↓Xx_pk, ↓k1b_eq, ↓k1_eq, ↓Xx_p1, ↓k2d_eq, ↓k2c_eq, ↓k2b_eq, ↓k2_eq, ↓Xx_p2, ↓kIb_eq, ↓kI_eq, ↓Xx_isi, ↓kSd_eq, ↓kSc_eq, ↓kSb_eq, ↓kS_eq, ↓Xx_slc, ↓Xx_noE, ↓kOb_eq, ↓kO_eq, ↓Xx_so, ↓kTb_eq, ↓kT_eq, ↓Xx_tup, ↓kLb_eq, ↓kL_eq, ↓Xx_lst, ↓kCb_eq, ↓kC_eq, ↓Xx_call, ↓Xx_nil, ↓kAb_eq, ↓kA_eq, ↓Xx_cons, ↓Xx_one, ↓kAnb_eq, ↓kAn_eq, ↓Xx_and, ↓kOrb_eq, ↓kOr_eq, ↓Xx_or, ↓kNob_eq, ↓kNo_eq, ↓Xx_not, ↓kIfb_eq, ↓kIf_eq, ↓Xx_if, ↓kTrb_eq, ↓kTr_eq, ↓Xt_cst, ↓Xt_var, ↓Xt_pk, ↓Xt_p1, ↓Xt_p2, ↓Xt_isi, ↓Xt_call, ↓Xt_slc, ↓kE_eq, ↓kIv_d, ↓Xi_val, ↓kRb_eq, ↓kR_eq, ↓Xi_rng1, ↓kEnb_eq, ↓kEn_d, ↓Xi_enu, ↓kAs_d, ↓Xy_asg, ↓kApc_eq, ↓kApb_d, ↓kAp_eq, ↓Xy_app, ↓kX_eq, ↓Xy_ex, ↓kRt_d, ↓Xy_ret, ↓Xy_retN, ↓kItb_eq, ↓kIt_eq, ↓Xy_ite, ↓kF_eq, ↓Xy_for1, ↓kFT_eq, ↓Xy_forT, sl_zero, sl_succ, sd_some, sp_some, sp_if, sp_ifn, sb_some, sf_some, si_some, si_if, sint_some, so_some, res_d, res_pk, tv_t_d, tv_f, resL_nil, resL_cons, fz_d, fz_p, q_neg, q_len_s, q_len_l, q_len_t, q_int, q_int_b, q_add, q_add_s, q_sub, q_mul, q_fdiv, q_mod, q_pow, q_lt, q_le, q_gt, q_ge, q_eq_i, q_eq_s, q_eq_b, q_ne_i, q_ne_s, q_ne_b, q_in_s, q_nin_s, q_is_n, q_is_i, q_is_s, q_is_l, q_is_t, q_nn_n, q_nn_i, q_nn_s, q_nn_l, q_nn_t, q_idx_l, q_idx_t, q_idx_s, q_sl_l, q_sl_s, shr_i, shr_b, shr_s, shr_n, shr_l, own_l, own_t, own_i, own_s, own_b, own_n, ownL_nil, ownL_cons, frz_l0, frz_l1, frz_t, frz_i, frz_s, frz_b, frz_n, frzL_nil, frzL_cons, at_0, at_1, at_2, disp_eq, it_l0, it_t, it_s, eno_s, eno_l, ty_ii, ty_ib, ty_is, ty_ss, ty_si, ty_bb, ty_bi, ty_ll, ty_tt, tr_b, tr_i, tr_l, dat_v, dat_l, dat_t, Option.bind_some, Option.map_some, Bool.or_false, Bool.false_or, Bool.true_and, List.set_cons_zero, List.set_cons_succ, if_true, if_false, Bool.false_eq_true, Bool.not_true, Bool.not_false, ↓reduceIte, List.map_cons, List.map_nil, List.cons_append, List.nil_append, List.replicate_succ, List.replicate_zero, List.length_cons, List.length_nil, Nat.reduceSub, Nat.reduceAdd, true_and, reduceCtorEq, false_and, false_or, or_false, exists_false, Nat.reduceLeDiff, Int.reduceLT, Int.reduceLE, Int.reduceNeg, decide_true, and_self, and_true, Int.toNat_natCast]
theorem at3 (x : Int) : ∃ c, at_ [48, 49, 45] (x % 3) = some c ∧ (c = 48 ∨ c = 49 ∨ c = 45) := by
  have h : x % 3 = 0 ∨ x % 3 = 1 ∨ x % 3 = 2 := by omega
  rcases h with h | h | h <;> rw [h]
  · exact ⟨48, rfl, .inl rfl⟩
  · exact ⟨49, rfl, .inr (.inl rfl)⟩
  · exact ⟨45, rfl, .inr (.inr rfl)⟩
theorem r_cube (n : Nat) (x : Int) (m : Nat) (hm : m ≤ 1000) : ∃ v, OI.run gcs tab (n + 1) 12 [.int x, .int m] = some (.ok v) ∧ ∃ s, v = .str s ∧ s.length = m ∧ IsC s := by
  refine run_ex (d := d12) rfl rfl ?_
  simp (config := {maxSteps := 4000000}) only [q_is_bb, q_nn_bb, q_eq_ns, q_eq_sn, q_eq_nn, q_ne_ns, q_ne_sn, q_ne_nn, q_in_t, q_in_l, q_nin_l, inL_strs, vB_some_, vNB_some_, ↓Xx_lc, ↓Xt_lc, ↓kLc_eq, ↓kLcR_eq, ↓kLe_d, ↓kLqb_eq, ↓kLq_eq, ↓lc_1, ↓lc_10, ↓lc_2, ↓lc_20, wipe_0, wipe_s, ↓kR2_eq, ↓kR2b_eq, ↓kR2c_eq, ↓kR2d_eq, ↓Xi_rng2, ↓kN_nx, ↓kN_rt, ↓kN_bk, ↓kN_ct, ↓Xy_skip, ↓Xy_seq, ↓kD_eq, ↓Xx_cst, ↓Xx_gc, ↓kV_eq, ↓Xx_var, ↓kM_eq, ↓Xx_mov, ↓kP_eq, ↓Xx_pk, ↓k1b_eq, ↓k1_eq, ↓Xx_p1, ↓k2d_eq, ↓k2c_eq, ↓k2b_eq, ↓k2_eq, ↓Xx_p2, ↓kIb_eq, ↓kI_eq, ↓Xx_isi, ↓kSd_eq, ↓kSc_eq, ↓kSb_eq, ↓kS_eq, ↓Xx_slc, ↓Xx_noE, ↓kOb_eq, ↓kO_eq, ↓Xx_so, ↓kTb_eq, ↓kT_eq, ↓Xx_tup, ↓kLb_eq, ↓kL_eq, ↓Xx_lst, ↓kCb_eq, ↓kC_eq, ↓Xx_call, ↓Xx_nil, ↓kAb_eq, ↓kA_eq, ↓Xx_cons, ↓Xx_one, ↓kAnb_eq, ↓kAn_eq, ↓Xx_and, ↓kOrb_eq, ↓kOr_eq, ↓Xx_or, ↓kNob_eq, ↓kNo_eq, ↓Xx_not, ↓kIfb_eq, ↓kIf_eq, ↓Xx_if, ↓kTrb_eq, ↓kTr_eq, ↓Xt_cst, ↓Xt_var, ↓Xt_pk, ↓Xt_p1, ↓Xt_p2, ↓Xt_isi, ↓Xt_call, ↓Xt_slc, ↓kE_eq, ↓kIv_d, ↓Xi_val, ↓kRb_eq, ↓kR_eq, ↓Xi_rng1, ↓kEnb_eq, ↓kEn_d, ↓Xi_enu, ↓kAs_d, ↓Xy_asg, ↓kApc_eq, ↓kApb_d, ↓kAp_eq, ↓Xy_app, ↓kX_eq, ↓Xy_ex, ↓kRt_d, ↓Xy_ret, ↓Xy_retN, ↓kItb_eq, ↓kIt_eq, ↓Xy_ite, ↓kF_eq, ↓Xy_for1, ↓kFT_eq, ↓Xy_forT, sl_zero, sl_succ, sd_some, sp_some, sp_if, sp_ifn, sb_some, sf_some, si_some, si_if, sint_some, so_some, res_d, res_pk, tv_t_d, tv_f, resL_nil, resL_cons, fz_d, fz_p, q_neg, q_len_s, q_len_l, q_len_t, q_int, q_int_b, q_add, q_add_s, q_sub, q_mul, q_fdiv, q_mod, q_pow, q_lt, q_le, q_gt, q_ge, q_eq_i, q_eq_s, q_eq_b, q_ne_i, q_ne_s, q_ne_b, q_in_s, q_nin_s, q_is_n, q_is_i, q_is_s, q_is_l, q_is_t, q_nn_n, q_nn_i, q_nn_s, q_nn_l, q_nn_t, q_idx_l, q_idx_t, q_idx_s, q_sl_l, q_sl_s, shr_i, shr_b, shr_s, shr_n, shr_l, own_l, own_t, own_i, own_s, own_b, own_n, ownL_nil, ownL_cons, frz_l0, frz_l1, frz_t, frz_i, frz_s, frz_b, frz_n, frzL_nil, frzL_cons, at_0, at_1, at_2, disp_eq, it_l0, it_t, it_s, eno_s, eno_l, ty_ii, ty_ib, ty_is, ty_ss, ty_si, ty_bb, ty_bi, ty_ll, ty_tt, tr_b, tr_i, tr_l, dat_v, dat_l, dat_t, Option.bind_some, Option.map_some, Bool.or_false, Bool.false_or, Bool.true_and, List.set_cons_zero, List.set_cons_succ, if_true, if_false, Bool.false_eq_true, Bool.not_true, Bool.not_false, ↓reduceIte, List.map_cons, List.map_nil, List.cons_append, List.nil_append, List.replicate_succ, List.replicate_zero, List.length_cons, List.length_nil, Nat.reduceSub, Nat.reduceAdd, true_and, reduceCtorEq, false_and, false_or, or_false, exists_false, Nat.reduceLeDiff, Int.reduceLT, Int.reduceLE, Int.reduceNeg, decide_true, and_self, and_true, Int.toNat_natCast, d12, c12]
  refine ⟨⟨by omega, by omega⟩, ?_⟩
  refine for_inv (fun i e => ∃ x s o3, e = [some (.int x), some (.int m), some (.str s), o3] ∧ s.length = i ∧ IsC s) ⟨x, [], none, rfl, rfl, fun c hc => nomatch hc⟩ ?_ ?_
  · rintro i y e hy ⟨x, s, o3, rfl, hl, hs⟩
    obtain ⟨hi, rfl⟩ := rng_get hy
    have hi : i < m := by simpa using hi
    obtain ⟨c, hc, hc'⟩ := at3 x
    rw [lp1_eq]
    simp (config := {maxSteps := 4000000}) only [q_is_bb, q_nn_bb, q_eq_ns, q_eq_sn, q_eq_nn, q_ne_ns, q_ne_sn, q_ne_nn, q_in_t, q_in_l, q_nin_l, inL_strs, vB_some_, vNB_some_, ↓Xx_lc, ↓Xt_lc, ↓kLc_eq, ↓kLcR_eq, ↓kLe_d, ↓kLqb_eq, ↓kLq_eq, ↓lc_1, ↓lc_10, ↓lc_2, ↓lc_20, wipe_0, wipe_s, ↓kR2_eq, ↓kR2b_eq, ↓kR2c_eq, ↓kR2d_eq, ↓Xi_rng2, ↓kN_nx, ↓kN_rt, ↓kN_bk, ↓kN_ct, ↓Xy_skip, ↓Xy_seq, ↓kD_eq, ↓Xx_cst, ↓Xx_gc, ↓kV_eq, ↓Xx_var, ↓kM_eq, ↓Xx_mov, ↓kP_eq, ↓Xx_pk, ↓k1b_eq, ↓k1_eq, ↓Xx_p1, ↓k2d_eq, ↓k2c_eq, ↓k2b_eq, ↓k2_eq, ↓Xx_p2, ↓kIb_eq, ↓kI_eq, ↓Xx_isi, ↓kSd_eq, ↓kSc_eq, ↓kSb_eq, ↓kS_eq, ↓Xx_slc, ↓Xx_noE, ↓kOb_eq, ↓kO_eq, ↓Xx_so, ↓kTb_eq, ↓kT_eq, ↓Xx_tup, ↓kLb_eq, ↓kL_eq, ↓Xx_lst, ↓kCb_eq, ↓kC_eq, ↓Xx_call, ↓Xx_nil, ↓kAb_eq, ↓kA_eq, ↓Xx_cons, ↓Xx_one, ↓kAnb_eq, ↓kAn_eq, ↓Xx_and, ↓kOrb_eq, ↓kOr_eq, ↓Xx_or, ↓kNob_eq, ↓kNo_eq, ↓Xx_not, ↓kIfb_eq, ↓kIf_eq, ↓Xx_if, ↓kTrb_eq, ↓kTr_eq, ↓Xt_cst, ↓Xt_var, ↓Xt_pk, ↓Xt_p1, ↓Xt_p2, ↓Xt_isi, ↓Xt_call, ↓Xt_slc, ↓kE_eq, ↓kIv_d, ↓Xi_val, ↓kRb_eq, ↓kR_eq, ↓Xi_rng1, ↓kEnb_eq, ↓kEn_d, ↓Xi_enu, ↓kAs_d, ↓Xy_asg, ↓kApc_eq, ↓kApb_d, ↓kAp_eq, ↓Xy_app, ↓kX_eq, ↓Xy_ex, ↓kRt_d, ↓Xy_ret, ↓Xy_retN, ↓kItb_eq, ↓kIt_eq, ↓Xy_ite, ↓kF_eq, ↓Xy_for1, ↓kFT_eq, ↓Xy_forT, sl_zero, sl_succ, sd_some, sp_some, sp_if, sp_ifn, sb_some, sf_some, si_some, si_if, sint_some, so_some, res_d, res_pk, tv_t_d, tv_f, resL_nil, resL_cons, fz_d, fz_p, q_neg, q_len_s, q_len_l, q_len_t, q_int, q_int_b, q_add, q_add_s, q_sub, q_mul, q_fdiv, q_mod, q_pow, q_lt, q_le, q_gt, q_ge, q_eq_i, q_eq_s, q_eq_b, q_ne_i, q_ne_s, q_ne_b, q_in_s, q_nin_s, q_is_n, q_is_i, q_is_s, q_is_l, q_is_t, q_nn_n, q_nn_i, q_nn_s, q_nn_l, q_nn_t, q_idx_l, q_idx_t, q_idx_s, q_sl_l, q_sl_s, shr_i, shr_b, shr_s, shr_n, shr_l, own_l, own_t, own_i, own_s, own_b, own_n, ownL_nil, ownL_cons, frz_l0, frz_l1, frz_t, frz_i, frz_s, frz_b, frz_n, frzL_nil, frzL_cons, at_0, at_1, at_2, disp_eq, it_l0, it_t, it_s, eno_s, eno_l, ty_ii, ty_ib, ty_is, ty_ss, ty_si, ty_bb, ty_bi, ty_ll, ty_tt, tr_b, tr_i, tr_l, dat_v, dat_l, dat_t, Option.bind_some, Option.map_some, Bool.or_false, Bool.false_or, Bool.true_and, List.set_cons_zero, List.set_cons_succ, if_true, if_false, Bool.false_eq_true, Bool.not_true, Bool.not_false, ↓reduceIte, List.map_cons, List.map_nil, List.cons_append, List.nil_append, List.replicate_succ, List.replicate_zero, List.length_cons, List.length_nil, Nat.reduceSub, Nat.reduceAdd, true_and, reduceCtorEq, false_and, false_or, or_false, exists_false, Nat.reduceLeDiff, Int.reduceLT, Int.reduceLE, Int.reduceNeg, decide_true, and_self, and_true, Int.toNat_natCast, hc]
    refine ⟨line_le (by omega), _, _, _, rfl, by simp; omega, isC_snoc hs hc'⟩
  · rintro e ⟨x, s, o3, rfl, hl, hs⟩
    rw [List.length_map, List.length_range] at hl
    simp (config := {maxSteps := 4000000}) only [q_is_bb, q_nn_bb, q_eq_ns, q_eq_sn, q_eq_nn, q_ne_ns, q_ne_sn, q_ne_nn, q_in_t, q_in_l, q_nin_l, inL_strs, vB_some_, vNB_some_, ↓Xx_lc, ↓Xt_lc, ↓kLc_eq, ↓kLcR_eq, ↓kLe_d, ↓kLqb_eq, ↓kLq_eq, ↓lc_1, ↓lc_10, ↓lc_2, ↓lc_20, wipe_0, wipe_s, ↓kR2_eq, ↓kR2b_eq, ↓kR2c_eq, ↓kR2d_eq, ↓Xi_rng2, ↓kN_nx, ↓kN_rt, ↓kN_bk, ↓kN_ct, ↓Xy_skip, ↓Xy_seq, ↓kD_eq, ↓Xx_cst, ↓Xx_gc, ↓kV_eq, ↓Xx_var, ↓kM_eq, ↓Xx_mov, ↓kP_eq, ↓Xx_pk, ↓k1b_eq, ↓k1_eq, ↓Xx_p1, ↓k2d_eq, ↓k2c_eq, ↓k2b_eq, ↓k2_eq, ↓Xx_p2, ↓kIb_eq, ↓kI_eq, ↓Xx_isi, ↓kSd_eq, ↓kSc_eq, ↓kSb_eq, ↓kS_eq, ↓Xx_slc, ↓Xx_noE, ↓kOb_eq, ↓kO_eq, ↓Xx_so, ↓kTb_eq, ↓kT_eq, ↓Xx_tup, ↓kLb_eq, ↓kL_eq, ↓Xx_lst, ↓kCb_eq, ↓kC_eq, ↓Xx_call, ↓Xx_nil, ↓kAb_eq, ↓kA_eq, ↓Xx_cons, ↓Xx_one, ↓kAnb_eq, ↓kAn_eq, ↓Xx_and, ↓kOrb_eq, ↓kOr_eq, ↓Xx_or, ↓kNob_eq, ↓kNo_eq, ↓Xx_not, ↓kIfb_eq, ↓kIf_eq, ↓Xx_if, ↓kTrb_eq, ↓kTr_eq, ↓Xt_cst, ↓Xt_var, ↓Xt_pk, ↓Xt_p1, ↓Xt_p2, ↓Xt_isi, ↓Xt_call, ↓Xt_slc, ↓kE_eq, ↓kIv_d, ↓Xi_val, ↓kRb_eq, ↓kR_eq, ↓Xi_rng1, ↓kEnb_eq, ↓kEn_d, ↓Xi_enu, ↓kAs_d, ↓Xy_asg, ↓kApc_eq, ↓kApb_d, ↓kAp_eq, ↓Xy_app, ↓kX_eq, ↓Xy_ex, ↓kRt_d, ↓Xy_ret, ↓Xy_retN, ↓kItb_eq, ↓kIt_eq, ↓Xy_ite, ↓kF_eq, ↓Xy_for1, ↓kFT_eq, ↓Xy_forT, sl_zero, sl_succ, sd_some, sp_some, sp_if, sp_ifn, sb_some, sf_some, si_some, si_if, sint_some, so_some, res_d, res_pk, tv_t_d, tv_f, resL_nil, resL_cons, fz_d, fz_p, q_neg, q_len_s, q_len_l, q_len_t, q_int, q_int_b, q_add, q_add_s, q_sub, q_mul, q_fdiv, q_mod, q_pow, q_lt, q_le, q_gt, q_ge, q_eq_i, q_eq_s, q_eq_b, q_ne_i, q_ne_s, q_ne_b, q_in_s, q_nin_s, q_is_n, q_is_i, q_is_s, q_is_l, q_is_t, q_nn_n, q_nn_i, q_nn_s, q_nn_l, q_nn_t, q_idx_l, q_idx_t, q_idx_s, q_sl_l, q_sl_s, shr_i, shr_b, shr_s, shr_n, shr_l, own_l, own_t, own_i, own_s, own_b, own_n, ownL_nil, ownL_cons, frz_l0, frz_l1, frz_t, frz_i, frz_s, frz_b, frz_n, frzL_nil, frzL_cons, at_0, at_1, at_2, disp_eq, it_l0, it_t, it_s, eno_s, eno_l, ty_ii, ty_ib, ty_is, ty_ss, ty_si, ty_bb, ty_bi, ty_ll, ty_tt, tr_b, tr_i, tr_l, dat_v, dat_l, dat_t, Option.bind_some, Option.map_some, Bool.or_false, Bool.false_or, Bool.true_and, List.set_cons_zero, List.set_cons_succ, if_true, if_false, Bool.false_eq_true, Bool.not_true, Bool.not_false, ↓reduceIte, List.map_cons, List.map_nil, List.cons_append, List.nil_append, List.replicate_succ, List.replicate_zero, List.length_cons, List.length_nil, Nat.reduceSub, Nat.reduceAdd, true_and, reduceCtorEq, false_and, false_or, or_false, exists_false, Nat.reduceLeDiff, Int.reduceLT, Int.reduceLE, Int.reduceNeg, decide_true, and_self, and_true, Int.toNat_natCast]
    exact ⟨_, rfl, _, rfl, by simpa using hl, hs⟩
end Lw
namespace Lw
/-- every point of d is a point of c -/
def due (c d : List Nat) : Bool := (strsOf c.length [48, 49]).all fun p => !(ins d p) || ins c p
end Lw
namespace Lw
theorem fill : ∀ {d : List Nat}, IsC d → ∃ p : List Nat, p.length = d.length ∧ (∀ x ∈ p, x ∈ [48, 49]) ∧ ins d p = true
  | [], _ => ⟨[], rfl, (fun x h => nomatch h), rfl⟩
  | b :: d, h => by
    obtain ⟨p, h1, h2, h3⟩ := fill (d := d) fun x hx => h x (List.mem_cons_of_mem _ hx)
    have hb := h b (List.mem_cons_self ..)
    refine ⟨(if b = 45 then 48 else b) :: p, by simp [h1], ?_, ?_⟩
    · intro x hx
      rcases List.mem_cons.mp hx with q | q
      · rcases hb with e | e | e <;> simp [q, e]
      · exact h2 x q
    · rcases hb with e | e | e <;> simp [ins, e, h3]
theorem sep : ∀ {c d : List Nat}, c.length = d.length → IsC c → IsC d → ins c d = false → ∃ p : List Nat, p.length = c.length ∧ (∀ x ∈ p, x ∈ [48, 49]) ∧ ins d p = true ∧ ins c p = false
  | [], [], _, _, _, h => by simp [ins] at h
  | a :: c, b :: d, hl, hc, hd, h => by
    have hc' : IsC c := fun x hx => hc x (List.mem_cons_of_mem _ hx)
    have hd' : IsC d := fun x hx => hd x (List.mem_cons_of_mem _ hx)
    have ha := hc a (List.mem_cons_self ..)
    have hb := hd b (List.mem_cons_self ..)
    have hl' : c.length = d.length := by simpa using hl
    by_cases q : ins c d = false
    · obtain ⟨p, h1, h2, h3, h4⟩ := sep hl' hc' hd' q
      refine ⟨(if b = 45 then 48 else b) :: p, by simp [h1], ?_, ?_, ?_⟩
      · intro x hx
        rcases List.mem_cons.mp hx with q | q
        · rcases hb with e | e | e <;> simp [q, e]
        · exact h2 x q
      · rcases hb with e | e | e <;> simp [ins, e, h3]
      · simp [ins, h4]
    · have q : ins c d = true := by simpa using q
      obtain ⟨p, h1, h2, h3⟩ := fill hd'
      have hab : ¬ (a = 45) ∧ ¬ (a = b) := by
        rw [ins, q, Bool.and_true] at h
        simpa using h
      refine ⟨(if b = 45 then (if a = 48 then 49 else 48) else b) :: p, by simp [h1, hl'], ?_, ?_, ?_⟩
      · intro x hx
        rcases List.mem_cons.mp hx with q | q
        · rw [q]
          rcases hb with e | e | e <;> rcases ha with e' | e' | e' <;> simp [e, e']
        · exact h2 x q
      · rcases hb with e | e | e <;> simp [ins, e, h3]
      · rcases hb with e | e | e <;> rcases ha with e' | e' | e' <;> subst e <;> subst e' <;> simp_all [ins]
  | [], _ :: _, h, _, _, _ => by simp at h
  | _ :: _, [], h, _, _, _ => by simp at h
theorem ins_trans : ∀ {c d p : List Nat}, c.length = d.length → d.length = p.length → ins c d = true → ins d p = true → ins c p = true
  | [], [], [], _, _, _, _ => rfl
  | a :: c, b :: d, x :: p, h1, h2, h3, h4 => by
    simp only [ins, Bool.and_eq_true, Bool.or_eq_true, decide_eq_true_eq] at h3 h4 ⊢
    refine ⟨by omega, ins_trans (by simpa using h1) (by simpa using h2) h3.2 h4.2⟩
  | [], _ :: _, _, h, _, _, _ => by simp at h
  | _ :: _, [], _, h, _, _, _ => by simp at h
  | _, [], _ :: _, _, h, _, _ => by simp at h
  | _, _ :: _, [], _, h, _, _ => by simp at h
theorem due_eq {c d : List Nat} (hl : c.length = d.length) (hc : IsC c) (hd : IsC d) : due c d = ins c d := by
  cases q : ins c d with
  | true =>
    unfold due
    rw [List.all_eq_true]
    intro p hp
    have := strs_len hp
    cases z : ins d p with
    | false => simp
    | true => rw [ins_trans hl (by omega) q z]; simp
  | false =>
    obtain ⟨p, h1, h2, h3, h4⟩ := sep hl hc hd q
    unfold due
    rw [List.all_eq_false]
    exact ⟨p, strs_mem h1 h2, by rw [h3, h4]; simp⟩
end Lw
namespace Lw
theorem r_mixed (n : Nat) (s k : Int) : ∃ v, OI.run gcs tab (n + 1) 8 [.int s, .int k] = some (.ok v) ∧ ∃ i, v = .int i ∧ 0 ≤ i ∧ i < 10007 := by
  refine run_ex (d := d8) rfl rfl ?_
  simp (config := {maxSteps := 4000000}) only [q_is_bb, q_nn_bb, q_eq_ns, q_eq_sn, q_eq_nn, q_ne_ns, q_ne_sn, q_ne_nn, q_in_t, q_in_l, q_nin_l, inL_strs, vB_some_, vNB_some_, ↓Xx_lc, ↓Xt_lc, ↓kLc_eq, ↓kLcR_eq, ↓kLe_d, ↓kLqb_eq, ↓kLq_eq, ↓lc_1, ↓lc_10, ↓lc_2, ↓lc_20, wipe_0, wipe_s, ↓kR2_eq, ↓kR2b_eq, ↓kR2c_eq, ↓kR2d_eq, ↓Xi_rng2, ↓kN_nx, ↓kN_rt, ↓kN_bk, ↓kN_ct, ↓Xy_skip, ↓Xy_seq, ↓kD_eq, ↓Xx_cst, ↓Xx_gc, ↓kV_eq, ↓Xx_var, ↓kM_eq, ↓Xx_mov, ↓kP_eq, ↓Xx_pk, ↓k1b_eq, ↓k1_eq, ↓Xx_p1, ↓k2d_eq, ↓k2c_eq, ↓k2b_eq, ↓k2_eq, ↓Xx_p2, ↓kIb_eq, ↓kI_eq, ↓Xx_isi, ↓kSd_eq, ↓kSc_eq, ↓kSb_eq, ↓kS_eq, ↓Xx_slc, ↓Xx_noE, ↓kOb_eq, ↓kO_eq, ↓Xx_so, ↓kTb_eq, ↓kT_eq, ↓Xx_tup, ↓kLb_eq, ↓kL_eq, ↓Xx_lst, ↓kCb_eq, ↓kC_eq, ↓Xx_call, ↓Xx_nil, ↓kAb_eq, ↓kA_eq, ↓Xx_cons, ↓Xx_one, ↓kAnb_eq, ↓kAn_eq, ↓Xx_and, ↓kOrb_eq, ↓kOr_eq, ↓Xx_or, ↓kNob_eq, ↓kNo_eq, ↓Xx_not, ↓kIfb_eq, ↓kIf_eq, ↓Xx_if, ↓kTrb_eq, ↓kTr_eq, ↓Xt_cst, ↓Xt_var, ↓Xt_pk, ↓Xt_p1, ↓Xt_p2, ↓Xt_isi, ↓Xt_call, ↓Xt_slc, ↓kE_eq, ↓kIv_d, ↓Xi_val, ↓kRb_eq, ↓kR_eq, ↓Xi_rng1, ↓kEnb_eq, ↓kEn_d, ↓Xi_enu, ↓kAs_d, ↓Xy_asg, ↓kApc_eq, ↓kApb_d, ↓kAp_eq, ↓Xy_app, ↓kX_eq, ↓Xy_ex, ↓kRt_d, ↓Xy_ret, ↓Xy_retN, ↓kItb_eq, ↓kIt_eq, ↓Xy_ite, ↓kF_eq, ↓Xy_for1, ↓kFT_eq, ↓Xy_forT, sl_zero, sl_succ, sd_some, sp_some, sp_if, sp_ifn, sb_some, sf_some, si_some, si_if, sint_some, so_some, res_d, res_pk, tv_t_d, tv_f, resL_nil, resL_cons, fz_d, fz_p, q_neg, q_len_s, q_len_l, q_len_t, q_int, q_int_b, q_add, q_add_s, q_sub, q_mul, q_fdiv, q_mod, q_pow, q_lt, q_le, q_gt, q_ge, q_eq_i, q_eq_s, q_eq_b, q_ne_i, q_ne_s, q_ne_b, q_in_s, q_nin_s, q_is_n, q_is_i, q_is_s, q_is_l, q_is_t, q_nn_n, q_nn_i, q_nn_s, q_nn_l, q_nn_t, q_idx_l, q_idx_t, q_idx_s, q_sl_l, q_sl_s, shr_i, shr_b, shr_s, shr_n, shr_l, own_l, own_t, own_i, own_s, own_b, own_n, ownL_nil, ownL_cons, frz_l0, frz_l1, frz_t, frz_i, frz_s, frz_b, frz_n, frzL_nil, frzL_cons, at_0, at_1, at_2, disp_eq, it_l0, it_t, it_s, eno_s, eno_l, ty_ii, ty_ib, ty_is, ty_ss, ty_si, ty_bb, ty_bi, ty_ll, ty_tt, tr_b, tr_i, tr_l, dat_v, dat_l, dat_t, Option.bind_some, Option.map_some, Bool.or_false, Bool.false_or, Bool.true_and, List.set_cons_zero, List.set_cons_succ, if_true, if_false, Bool.false_eq_true, Bool.not_true, Bool.not_false, ↓reduceIte, List.map_cons, List.map_nil, List.cons_append, List.nil_append, List.replicate_succ, List.replicate_zero, List.length_cons, List.length_nil, Nat.reduceSub, Nat.reduceAdd, true_and, reduceCtorEq, false_and, false_or, or_false, exists_false, Nat.reduceLeDiff, Int.reduceLT, Int.reduceLE, Int.reduceNeg, decide_true, and_self, and_true, Int.toNat_natCast, d8, c8]
  refine ⟨mul_l (by decide) (by decide), mul_r (by decide) (by decide), ?_, ?_, _, rfl, _, rfl, ?_, ?_⟩
  · exact mul_l (by omega) (by omega)
  · exact mul_l (by omega) (by omega)
  · omega
  · omega
theorem r_mixed2 (n : Nat) (s k : Int) : ∃ i : Int, OI.run gcs tab (n + 1) 8 [.int s, .int k] = some (.ok (.int i)) ∧ 0 ≤ i ∧ i < 10007 := by
  obtain ⟨v, h, i, rfl, b1, b2⟩ := r_mixed n s k
  exact ⟨i, h, b1, b2⟩
end Lw
namespace Lw
def Small (x : Int) : Prop := 0 ≤ x ∧ x < 10007
theorem small_snoc {l : List Int} {x : Int} (h : ∀ y ∈ l, Small y) (hx : Small x) : ∀ y ∈ l ++ [x], Small y := by
  intro y m
  rcases List.mem_append.mp m with z | z
  · exact h y z
  · have e : y = x := by simpa using z
    rw [e]; exact hx
theorem cut63 (ns : List Int) (h : ns.length ≤ 63) : (cut (ns.map D.int) none (some 63)).length = ns.length := by
  unfold cut
  rw [List.length_take, List.length_drop, HT.sIx_none, show HT.sIx (ns.map D.int).length (ns.map D.int).length (some 63) = min 63 (ns.map D.int).length from HT.sIx_nat _ _ 63, List.length_map]
  omega
theorem cut_to {l : List Int} {m : Nat} (h : m ≤ l.length) : cut (l.map D.int) none (some (m : Int)) = (l.take m).map D.int := by
  unfold cut
  rw [HT.sIx_none, HT.sIx_nat, List.length_map, Nat.min_eq_left h, List.drop_zero, Nat.sub_zero, List.map_take]
theorem r_draws (n : Nat) (ns : List Int) (hn : ns.length ≤ 63) (m : Nat) (hm : m ≤ 1000) : ∃ v, OI.run gcs tab (n + 2) 9 [.lst false (ns.map D.int), .int m] = some (.ok v) ∧ ∃ l : List Int, v = .lst true (l.map D.int) ∧ l.length = m ∧ ∀ x ∈ l, Small x := by
  refine run_ex (d := d9) rfl rfl ?_
  simp (config := {maxSteps := 4000000}) only [q_is_bb, q_nn_bb, q_eq_ns, q_eq_sn, q_eq_nn, q_ne_ns, q_ne_sn, q_ne_nn, q_in_t, q_in_l, q_nin_l, inL_strs, vB_some_, vNB_some_, ↓Xx_lc, ↓Xt_lc, ↓kLc_eq, ↓kLcR_eq, ↓kLe_d, ↓kLqb_eq, ↓kLq_eq, ↓lc_1, ↓lc_10, ↓lc_2, ↓lc_20, wipe_0, wipe_s, ↓kR2_eq, ↓kR2b_eq, ↓kR2c_eq, ↓kR2d_eq, ↓Xi_rng2, ↓kN_nx, ↓kN_rt, ↓kN_bk, ↓kN_ct, ↓Xy_skip, ↓Xy_seq, ↓kD_eq, ↓Xx_cst, ↓Xx_gc, ↓kV_eq, ↓Xx_var, ↓kM_eq, ↓Xx_mov, ↓kP_eq, ↓Xx_pk, ↓k1b_eq, ↓k1_eq, ↓Xx_p1, ↓k2d_eq, ↓k2c_eq, ↓k2b_eq, ↓k2_eq, ↓Xx_p2, ↓kIb_eq, ↓kI_eq, ↓Xx_isi, ↓kSd_eq, ↓kSc_eq, ↓kSb_eq, ↓kS_eq, ↓Xx_slc, ↓Xx_noE, ↓kOb_eq, ↓kO_eq, ↓Xx_so, ↓kTb_eq, ↓kT_eq, ↓Xx_tup, ↓kLb_eq, ↓kL_eq, ↓Xx_lst, ↓kCb_eq, ↓kC_eq, ↓Xx_call, ↓Xx_nil, ↓kAb_eq, ↓kA_eq, ↓Xx_cons, ↓Xx_one, ↓kAnb_eq, ↓kAn_eq, ↓Xx_and, ↓kOrb_eq, ↓kOr_eq, ↓Xx_or, ↓kNob_eq, ↓kNo_eq, ↓Xx_not, ↓kIfb_eq, ↓kIf_eq, ↓Xx_if, ↓kTrb_eq, ↓kTr_eq, ↓Xt_cst, ↓Xt_var, ↓Xt_pk, ↓Xt_p1, ↓Xt_p2, ↓Xt_isi, ↓Xt_call, ↓Xt_slc, ↓kE_eq, ↓kIv_d, ↓Xi_val, ↓kRb_eq, ↓kR_eq, ↓Xi_rng1, ↓kEnb_eq, ↓kEn_d, ↓Xi_enu, ↓kAs_d, ↓Xy_asg, ↓kApc_eq, ↓kApb_d, ↓kAp_eq, ↓Xy_app, ↓kX_eq, ↓Xy_ex, ↓kRt_d, ↓Xy_ret, ↓Xy_retN, ↓kItb_eq, ↓kIt_eq, ↓Xy_ite, ↓kF_eq, ↓Xy_for1, ↓kFT_eq, ↓Xy_forT, sl_zero, sl_succ, sd_some, sp_some, sp_if, sp_ifn, sb_some, sf_some, si_some, si_if, sint_some, so_some, res_d, res_pk, tv_t_d, tv_f, resL_nil, resL_cons, fz_d, fz_p, q_neg, q_len_s, q_len_l, q_len_t, q_int, q_int_b, q_add, q_add_s, q_sub, q_mul, q_fdiv, q_mod, q_pow, q_lt, q_le, q_gt, q_ge, q_eq_i, q_eq_s, q_eq_b, q_ne_i, q_ne_s, q_ne_b, q_in_s, q_nin_s, q_is_n, q_is_i, q_is_s, q_is_l, q_is_t, q_nn_n, q_nn_i, q_nn_s, q_nn_l, q_nn_t, q_idx_l, q_idx_t, q_idx_s, q_sl_l, q_sl_s, shr_i, shr_b, shr_s, shr_n, shr_l, own_l, own_t, own_i, own_s, own_b, own_n, ownL_nil, ownL_cons, frz_l0, frz_l1, frz_t, frz_i, frz_s, frz_b, frz_n, frzL_nil, frzL_cons, at_0, at_1, at_2, disp_eq, it_l0, it_t, it_s, eno_s, eno_l, ty_ii, ty_ib, ty_is, ty_ss, ty_si, ty_bb, ty_bi, ty_ll, ty_tt, tr_b, tr_i, tr_l, dat_v, dat_l, dat_t, Option.bind_some, Option.map_some, Bool.or_false, Bool.false_or, Bool.true_and, List.set_cons_zero, List.set_cons_succ, if_true, if_false, Bool.false_eq_true, Bool.not_true, Bool.not_false, ↓reduceIte, List.map_cons, List.map_nil, List.cons_append, List.nil_append, List.replicate_succ, List.replicate_zero, List.length_cons, List.length_nil, Nat.reduceSub, Nat.reduceAdd, true_and, reduceCtorEq, false_and, false_or, or_false, exists_false, Nat.reduceLeDiff, Int.reduceLT, Int.reduceLE, Int.reduceNeg, decide_true, and_self, and_true, Int.toNat_natCast, d9, c9]
  refine ⟨by simp [own_ints], by rw [cut63 ns hn]; omega, ?_⟩
  refine for_inv (fun i e => ∃ (l : List Int) (s : Int) (o4 o5 o6 : Option D), e = [some (.lst false (ns.map D.int)), some (.int m), some (.lst true (l.map D.int)), some (.int s), o4, o5, o6] ∧ (∀ x ∈ l, Small x) ∧ l.length ≤ 60 * i) ⟨[], 1, none, none, none, rfl, (fun x hx => nomatch hx), Nat.le_refl _⟩ ?_ ?_
  · -- one number of the script
    rintro i x e hx ⟨l, s, o4, o5, o6, rfl, hl, hlen⟩
    rw [cut63 ns hn] at hx
    obtain ⟨hi, rfl⟩ := rng_get hx
    have hi' : i < ns.length := by simpa using hi
    rw [lp1_eq]
    obtain ⟨c, hc, hat⟩ := at_ints (l := ns) (i := (i : Int)) (k := i) rfl hi'
    simp (config := {maxSteps := 4000000}) only [q_is_bb, q_nn_bb, q_eq_ns, q_eq_sn, q_eq_nn, q_ne_ns, q_ne_sn, q_ne_nn, q_in_t, q_in_l, q_nin_l, inL_strs, vB_some_, vNB_some_, ↓Xx_lc, ↓Xt_lc, ↓kLc_eq, ↓kLcR_eq, ↓kLe_d, ↓kLqb_eq, ↓kLq_eq, ↓lc_1, ↓lc_10, ↓lc_2, ↓lc_20, wipe_0, wipe_s, ↓kR2_eq, ↓kR2b_eq, ↓kR2c_eq, ↓kR2d_eq, ↓Xi_rng2, ↓kN_nx, ↓kN_rt, ↓kN_bk, ↓kN_ct, ↓Xy_skip, ↓Xy_seq, ↓kD_eq, ↓Xx_cst, ↓Xx_gc, ↓kV_eq, ↓Xx_var, ↓kM_eq, ↓Xx_mov, ↓kP_eq, ↓Xx_pk, ↓k1b_eq, ↓k1_eq, ↓Xx_p1, ↓k2d_eq, ↓k2c_eq, ↓k2b_eq, ↓k2_eq, ↓Xx_p2, ↓kIb_eq, ↓kI_eq, ↓Xx_isi, ↓kSd_eq, ↓kSc_eq, ↓kSb_eq, ↓kS_eq, ↓Xx_slc, ↓Xx_noE, ↓kOb_eq, ↓kO_eq, ↓Xx_so, ↓kTb_eq, ↓kT_eq, ↓Xx_tup, ↓kLb_eq, ↓kL_eq, ↓Xx_lst, ↓kCb_eq, ↓kC_eq, ↓Xx_call, ↓Xx_nil, ↓kAb_eq, ↓kA_eq, ↓Xx_cons, ↓Xx_one, ↓kAnb_eq, ↓kAn_eq, ↓Xx_and, ↓kOrb_eq, ↓kOr_eq, ↓Xx_or, ↓kNob_eq, ↓kNo_eq, ↓Xx_not, ↓kIfb_eq, ↓kIf_eq, ↓Xx_if, ↓kTrb_eq, ↓kTr_eq, ↓Xt_cst, ↓Xt_var, ↓Xt_pk, ↓Xt_p1, ↓Xt_p2, ↓Xt_isi, ↓Xt_call, ↓Xt_slc, ↓kE_eq, ↓kIv_d, ↓Xi_val, ↓kRb_eq, ↓kR_eq, ↓Xi_rng1, ↓kEnb_eq, ↓kEn_d, ↓Xi_enu, ↓kAs_d, ↓Xy_asg, ↓kApc_eq, ↓kApb_d, ↓kAp_eq, ↓Xy_app, ↓kX_eq, ↓Xy_ex, ↓kRt_d, ↓Xy_ret, ↓Xy_retN, ↓kItb_eq, ↓kIt_eq, ↓Xy_ite, ↓kF_eq, ↓Xy_for1, ↓kFT_eq, ↓Xy_forT, sl_zero, sl_succ, sd_some, sp_some, sp_if, sp_ifn, sb_some, sf_some, si_some, si_if, sint_some, so_some, res_d, res_pk, tv_t_d, tv_f, resL_nil, resL_cons, fz_d, fz_p, q_neg, q_len_s, q_len_l, q_len_t, q_int, q_int_b, q_add, q_add_s, q_sub, q_mul, q_fdiv, q_mod, q_pow, q_lt, q_le, q_gt, q_ge, q_eq_i, q_eq_s, q_eq_b, q_ne_i, q_ne_s, q_ne_b, q_in_s, q_nin_s, q_is_n, q_is_i, q_is_s, q_is_l, q_is_t, q_nn_n, q_nn_i, q_nn_s, q_nn_l, q_nn_t, q_idx_l, q_idx_t, q_idx_s, q_sl_l, q_sl_s, shr_i, shr_b, shr_s, shr_n, shr_l, own_l, own_t, own_i, own_s, own_b, own_n, ownL_nil, ownL_cons, frz_l0, frz_l1, frz_t, frz_i, frz_s, frz_b, frz_n, frzL_nil, frzL_cons, at_0, at_1, at_2, disp_eq, it_l0, it_t, it_s, eno_s, eno_l, ty_ii, ty_ib, ty_is, ty_ss, ty_si, ty_bb, ty_bi, ty_ll, ty_tt, tr_b, tr_i, tr_l, dat_v, dat_l, dat_t, Option.bind_some, Option.map_some, Bool.or_false, Bool.false_or, Bool.true_and, List.set_cons_zero, List.set_cons_succ, if_true, if_false, Bool.false_eq_true, Bool.not_true, Bool.not_false, ↓reduceIte, List.map_cons, List.map_nil, List.cons_append, List.nil_append, List.replicate_succ, List.replicate_zero, List.length_cons, List.length_nil, Nat.reduceSub, Nat.reduceAdd, true_and, reduceCtorEq, false_and, false_or, or_false, exists_false, Nat.reduceLeDiff, Int.reduceLT, Int.reduceLE, Int.reduceNeg, decide_true, and_self, and_true, Int.toNat_natCast, hat, shr]
    refine ⟨mul_r (by decide) (by decide), by decide, ite2 (fun _ => ?_) (fun _ => ?_)⟩
    · refine for_inv (fun j e => ∃ (l' : List Int) (s' c' : Int) (o4 o6 : Option D), e = [some (.lst false (ns.map D.int)), some (.int m), some (.lst true (l'.map D.int)), some (.int s'), o4, some (.int c'), o6] ∧ (∀ x ∈ l', Small x) ∧ l'.length ≤ l.length + j) ⟨l, _, c, _, o6, rfl, hl, by omega⟩ ?_ ?_
      · rintro j y e hy ⟨l', s', c', o4', o6', rfl, hl', hlen'⟩
        obtain ⟨hj, rfl⟩ := rng_get hy
        rw [lp1_eq]
        simp (config := {maxSteps := 4000000}) only [q_is_bb, q_nn_bb, q_eq_ns, q_eq_sn, q_eq_nn, q_ne_ns, q_ne_sn, q_ne_nn, q_in_t, q_in_l, q_nin_l, inL_strs, vB_some_, vNB_some_, ↓Xx_lc, ↓Xt_lc, ↓kLc_eq, ↓kLcR_eq, ↓kLe_d, ↓kLqb_eq, ↓kLq_eq, ↓lc_1, ↓lc_10, ↓lc_2, ↓lc_20, wipe_0, wipe_s, ↓kR2_eq, ↓kR2b_eq, ↓kR2c_eq, ↓kR2d_eq, ↓Xi_rng2, ↓kN_nx, ↓kN_rt, ↓kN_bk, ↓kN_ct, ↓Xy_skip, ↓Xy_seq, ↓kD_eq, ↓Xx_cst, ↓Xx_gc, ↓kV_eq, ↓Xx_var, ↓kM_eq, ↓Xx_mov, ↓kP_eq, ↓Xx_pk, ↓k1b_eq, ↓k1_eq, ↓Xx_p1, ↓k2d_eq, ↓k2c_eq, ↓k2b_eq, ↓k2_eq, ↓Xx_p2, ↓kIb_eq, ↓kI_eq, ↓Xx_isi, ↓kSd_eq, ↓kSc_eq, ↓kSb_eq, ↓kS_eq, ↓Xx_slc, ↓Xx_noE, ↓kOb_eq, ↓kO_eq, ↓Xx_so, ↓kTb_eq, ↓kT_eq, ↓Xx_tup, ↓kLb_eq, ↓kL_eq, ↓Xx_lst, ↓kCb_eq, ↓kC_eq, ↓Xx_call, ↓Xx_nil, ↓kAb_eq, ↓kA_eq, ↓Xx_cons, ↓Xx_one, ↓kAnb_eq, ↓kAn_eq, ↓Xx_and, ↓kOrb_eq, ↓kOr_eq, ↓Xx_or, ↓kNob_eq, ↓kNo_eq, ↓Xx_not, ↓kIfb_eq, ↓kIf_eq, ↓Xx_if, ↓kTrb_eq, ↓kTr_eq, ↓Xt_cst, ↓Xt_var, ↓Xt_pk, ↓Xt_p1, ↓Xt_p2, ↓Xt_isi, ↓Xt_call, ↓Xt_slc, ↓kE_eq, ↓kIv_d, ↓Xi_val, ↓kRb_eq, ↓kR_eq, ↓Xi_rng1, ↓kEnb_eq, ↓kEn_d, ↓Xi_enu, ↓kAs_d, ↓Xy_asg, ↓kApc_eq, ↓kApb_d, ↓kAp_eq, ↓Xy_app, ↓kX_eq, ↓Xy_ex, ↓kRt_d, ↓Xy_ret, ↓Xy_retN, ↓kItb_eq, ↓kIt_eq, ↓Xy_ite, ↓kF_eq, ↓Xy_for1, ↓kFT_eq, ↓Xy_forT, sl_zero, sl_succ, sd_some, sp_some, sp_if, sp_ifn, sb_some, sf_some, si_some, si_if, sint_some, so_some, res_d, res_pk, tv_t_d, tv_f, resL_nil, resL_cons, fz_d, fz_p, q_neg, q_len_s, q_len_l, q_len_t, q_int, q_int_b, q_add, q_add_s, q_sub, q_mul, q_fdiv, q_mod, q_pow, q_lt, q_le, q_gt, q_ge, q_eq_i, q_eq_s, q_eq_b, q_ne_i, q_ne_s, q_ne_b, q_in_s, q_nin_s, q_is_n, q_is_i, q_is_s, q_is_l, q_is_t, q_nn_n, q_nn_i, q_nn_s, q_nn_l, q_nn_t, q_idx_l, q_idx_t, q_idx_s, q_sl_l, q_sl_s, shr_i, shr_b, shr_s, shr_n, shr_l, own_l, own_t, own_i, own_s, own_b, own_n, ownL_nil, ownL_cons, frz_l0, frz_l1, frz_t, frz_i, frz_s, frz_b, frz_n, frzL_nil, frzL_cons, at_0, at_1, at_2, disp_eq, it_l0, it_t, it_s, eno_s, eno_l, ty_ii, ty_ib, ty_is, ty_ss, ty_si, ty_bb, ty_bi, ty_ll, ty_tt, tr_b, tr_i, tr_l, dat_v, dat_l, dat_t, Option.bind_some, Option.map_some, Bool.or_false, Bool.false_or, Bool.true_and, List.set_cons_zero, List.set_cons_succ, if_true, if_false, Bool.false_eq_true, Bool.not_true, Bool.not_false, ↓reduceIte, List.map_cons, List.map_nil, List.cons_append, List.nil_append, List.replicate_succ, List.replicate_zero, List.length_cons, List.length_nil, Nat.reduceSub, Nat.reduceAdd, true_and, reduceCtorEq, false_and, false_or, or_false, exists_false, Nat.reduceLeDiff, Int.reduceLT, Int.reduceLE, Int.reduceNeg, decide_true, and_self, and_true, Int.toNat_natCast]
        refine ite2 (fun _ => ?_) (fun _ => ?_)
        · refine ⟨?_, ?_⟩
          · exact line_lt (by rw [List.length_map]; omega)
          · rw [map_snoc]
            exact ⟨_, s', _, o4', _, rfl, small_snoc hl' ⟨by omega, by omega⟩, by rw [List.length_append]; simp; omega⟩
        · exact ⟨l', s', c', o4', _, rfl, hl', by omega⟩
      · rintro e ⟨l', s', c', o4', o6', rfl, hl', hlen'⟩
        rw [List.length_map, List.length_range] at hlen'
        simp (config := {maxSteps := 4000000}) only [q_is_bb, q_nn_bb, q_eq_ns, q_eq_sn, q_eq_nn, q_ne_ns, q_ne_sn, q_ne_nn, q_in_t, q_in_l, q_nin_l, inL_strs, vB_some_, vNB_some_, ↓Xx_lc, ↓Xt_lc, ↓kLc_eq, ↓kLcR_eq, ↓kLe_d, ↓kLqb_eq, ↓kLq_eq, ↓lc_1, ↓lc_10, ↓lc_2, ↓lc_20, wipe_0, wipe_s, ↓kR2_eq, ↓kR2b_eq, ↓kR2c_eq, ↓kR2d_eq, ↓Xi_rng2, ↓kN_nx, ↓kN_rt, ↓kN_bk, ↓kN_ct, ↓Xy_skip, ↓Xy_seq, ↓kD_eq, ↓Xx_cst, ↓Xx_gc, ↓kV_eq, ↓Xx_var, ↓kM_eq, ↓Xx_mov, ↓kP_eq, ↓Xx_pk, ↓k1b_eq, ↓k1_eq, ↓Xx_p1, ↓k2d_eq, ↓k2c_eq, ↓k2b_eq, ↓k2_eq, ↓Xx_p2, ↓kIb_eq, ↓kI_eq, ↓Xx_isi, ↓kSd_eq, ↓kSc_eq, ↓kSb_eq, ↓kS_eq, ↓Xx_slc, ↓Xx_noE, ↓kOb_eq, ↓kO_eq, ↓Xx_so, ↓kTb_eq, ↓kT_eq, ↓Xx_tup, ↓kLb_eq, ↓kL_eq, ↓Xx_lst, ↓kCb_eq, ↓kC_eq, ↓Xx_call, ↓Xx_nil, ↓kAb_eq, ↓kA_eq, ↓Xx_cons, ↓Xx_one, ↓kAnb_eq, ↓kAn_eq, ↓Xx_and, ↓kOrb_eq, ↓kOr_eq, ↓Xx_or, ↓kNob_eq, ↓kNo_eq, ↓Xx_not, ↓kIfb_eq, ↓kIf_eq, ↓Xx_if, ↓kTrb_eq, ↓kTr_eq, ↓Xt_cst, ↓Xt_var, ↓Xt_pk, ↓Xt_p1, ↓Xt_p2, ↓Xt_isi, ↓Xt_call, ↓Xt_slc, ↓kE_eq, ↓kIv_d, ↓Xi_val, ↓kRb_eq, ↓kR_eq, ↓Xi_rng1, ↓kEnb_eq, ↓kEn_d, ↓Xi_enu, ↓kAs_d, ↓Xy_asg, ↓kApc_eq, ↓kApb_d, ↓kAp_eq, ↓Xy_app, ↓kX_eq, ↓Xy_ex, ↓kRt_d, ↓Xy_ret, ↓Xy_retN, ↓kItb_eq, ↓kIt_eq, ↓Xy_ite, ↓kF_eq, ↓Xy_for1, ↓kFT_eq, ↓Xy_forT, sl_zero, sl_succ, sd_some, sp_some, sp_if, sp_ifn, sb_some, sf_some, si_some, si_if, sint_some, so_some, res_d, res_pk, tv_t_d, tv_f, resL_nil, resL_cons, fz_d, fz_p, q_neg, q_len_s, q_len_l, q_len_t, q_int, q_int_b, q_add, q_add_s, q_sub, q_mul, q_fdiv, q_mod, q_pow, q_lt, q_le, q_gt, q_ge, q_eq_i, q_eq_s, q_eq_b, q_ne_i, q_ne_s, q_ne_b, q_in_s, q_nin_s, q_is_n, q_is_i, q_is_s, q_is_l, q_is_t, q_nn_n, q_nn_i, q_nn_s, q_nn_l, q_nn_t, q_idx_l, q_idx_t, q_idx_s, q_sl_l, q_sl_s, shr_i, shr_b, shr_s, shr_n, shr_l, own_l, own_t, own_i, own_s, own_b, own_n, ownL_nil, ownL_cons, frz_l0, frz_l1, frz_t, frz_i, frz_s, frz_b, frz_n, frzL_nil, frzL_cons, at_0, at_1, at_2, disp_eq, it_l0, it_t, it_s, eno_s, eno_l, ty_ii, ty_ib, ty_is, ty_ss, ty_si, ty_bb, ty_bi, ty_ll, ty_tt, tr_b, tr_i, tr_l, dat_v, dat_l, dat_t, Option.bind_some, Option.map_some, Bool.or_false, Bool.false_or, Bool.true_and, List.set_cons_zero, List.set_cons_succ, if_true, if_false, Bool.false_eq_true, Bool.not_true, Bool.not_false, ↓reduceIte, List.map_cons, List.map_nil, List.cons_append, List.nil_append, List.replicate_succ, List.replicate_zero, List.length_cons, List.length_nil, Nat.reduceSub, Nat.reduceAdd, true_and, reduceCtorEq, false_and, false_or, or_false, exists_false, Nat.reduceLeDiff, Int.reduceLT, Int.reduceLE, Int.reduceNeg, decide_true, and_self, and_true, Int.toNat_natCast]
        exact ⟨l', s', _, _, _, rfl, hl', by have : (Int.toNat 60) = 60 := rfl; omega⟩
    · obtain ⟨v1, h1, i1, rfl, b1, b2⟩ := r_mixed n (c % 1000003) (2 * (i : Int))
      obtain ⟨v2, h2, i2, rfl, b3, b4⟩ := r_mixed n (c % 1000003) (2 * (i : Int) + 1)
      simp (config := {maxSteps := 4000000}) only [q_is_bb, q_nn_bb, q_eq_ns, q_eq_sn, q_eq_nn, q_ne_ns, q_ne_sn, q_ne_nn, q_in_t, q_in_l, q_nin_l, inL_strs, vB_some_, vNB_some_, ↓Xx_lc, ↓Xt_lc, ↓kLc_eq, ↓kLcR_eq, ↓kLe_d, ↓kLqb_eq, ↓kLq_eq, ↓lc_1, ↓lc_10, ↓lc_2, ↓lc_20, wipe_0, wipe_s, ↓kR2_eq, ↓kR2b_eq, ↓kR2c_eq, ↓kR2d_eq, ↓Xi_rng2, ↓kN_nx, ↓kN_rt, ↓kN_bk, ↓kN_ct, ↓Xy_skip, ↓Xy_seq, ↓kD_eq, ↓Xx_cst, ↓Xx_gc, ↓kV_eq, ↓Xx_var, ↓kM_eq, ↓Xx_mov, ↓kP_eq, ↓Xx_pk, ↓k1b_eq, ↓k1_eq, ↓Xx_p1, ↓k2d_eq, ↓k2c_eq, ↓k2b_eq, ↓k2_eq, ↓Xx_p2, ↓kIb_eq, ↓kI_eq, ↓Xx_isi, ↓kSd_eq, ↓kSc_eq, ↓kSb_eq, ↓kS_eq, ↓Xx_slc, ↓Xx_noE, ↓kOb_eq, ↓kO_eq, ↓Xx_so, ↓kTb_eq, ↓kT_eq, ↓Xx_tup, ↓kLb_eq, ↓kL_eq, ↓Xx_lst, ↓kCb_eq, ↓kC_eq, ↓Xx_call, ↓Xx_nil, ↓kAb_eq, ↓kA_eq, ↓Xx_cons, ↓Xx_one, ↓kAnb_eq, ↓kAn_eq, ↓Xx_and, ↓kOrb_eq, ↓kOr_eq, ↓Xx_or, ↓kNob_eq, ↓kNo_eq, ↓Xx_not, ↓kIfb_eq, ↓kIf_eq, ↓Xx_if, ↓kTrb_eq, ↓kTr_eq, ↓Xt_cst, ↓Xt_var, ↓Xt_pk, ↓Xt_p1, ↓Xt_p2, ↓Xt_isi, ↓Xt_call, ↓Xt_slc, ↓kE_eq, ↓kIv_d, ↓Xi_val, ↓kRb_eq, ↓kR_eq, ↓Xi_rng1, ↓kEnb_eq, ↓kEn_d, ↓Xi_enu, ↓kAs_d, ↓Xy_asg, ↓kApc_eq, ↓kApb_d, ↓kAp_eq, ↓Xy_app, ↓kX_eq, ↓Xy_ex, ↓kRt_d, ↓Xy_ret, ↓Xy_retN, ↓kItb_eq, ↓kIt_eq, ↓Xy_ite, ↓kF_eq, ↓Xy_for1, ↓kFT_eq, ↓Xy_forT, sl_zero, sl_succ, sd_some, sp_some, sp_if, sp_ifn, sb_some, sf_some, si_some, si_if, sint_some, so_some, res_d, res_pk, tv_t_d, tv_f, resL_nil, resL_cons, fz_d, fz_p, q_neg, q_len_s, q_len_l, q_len_t, q_int, q_int_b, q_add, q_add_s, q_sub, q_mul, q_fdiv, q_mod, q_pow, q_lt, q_le, q_gt, q_ge, q_eq_i, q_eq_s, q_eq_b, q_ne_i, q_ne_s, q_ne_b, q_in_s, q_nin_s, q_is_n, q_is_i, q_is_s, q_is_l, q_is_t, q_nn_n, q_nn_i, q_nn_s, q_nn_l, q_nn_t, q_idx_l, q_idx_t, q_idx_s, q_sl_l, q_sl_s, shr_i, shr_b, shr_s, shr_n, shr_l, own_l, own_t, own_i, own_s, own_b, own_n, ownL_nil, ownL_cons, frz_l0, frz_l1, frz_t, frz_i, frz_s, frz_b, frz_n, frzL_nil, frzL_cons, at_0, at_1, at_2, disp_eq, it_l0, it_t, it_s, eno_s, eno_l, ty_ii, ty_ib, ty_is, ty_ss, ty_si, ty_bb, ty_bi, ty_ll, ty_tt, tr_b, tr_i, tr_l, dat_v, dat_l, dat_t, Option.bind_some, Option.map_some, Bool.or_false, Bool.false_or, Bool.true_and, List.set_cons_zero, List.set_cons_succ, if_true, if_false, Bool.false_eq_true, Bool.not_true, Bool.not_false, ↓reduceIte, List.map_cons, List.map_nil, List.cons_append, List.nil_append, List.replicate_succ, List.replicate_zero, List.length_cons, List.length_nil, Nat.reduceSub, Nat.reduceAdd, true_and, reduceCtorEq, false_and, false_or, or_false, exists_false, Nat.reduceLeDiff, Int.reduceLT, Int.reduceLE, Int.reduceNeg, decide_true, and_self, and_true, Int.toNat_natCast, h1, h2]
      refine ⟨mul_l (by decide) (by decide), ?_, mul_l (by decide) (by decide), ?_, ?_⟩
      · exact line_lt (by rw [List.length_map]; omega)
      · exact line_lt (by rw [List.length_append, List.length_map]; simp; omega)
      · rw [map_snoc, map_snoc]
        exact ⟨_, _, _, _, _, rfl, small_snoc (small_snoc hl ⟨b1, b2⟩) ⟨b3, b4⟩, by simp; omega⟩
  · rintro e ⟨l, s, o4, o5, o6, rfl, hl, hlen⟩
    rw [List.length_map, List.length_range, cut63 ns hn] at hlen
    have hlen : l.length ≤ 60 * ns.length := by simpa using hlen
    simp (config := {maxSteps := 4000000}) only [q_is_bb, q_nn_bb, q_eq_ns, q_eq_sn, q_eq_nn, q_ne_ns, q_ne_sn, q_ne_nn, q_in_t, q_in_l, q_nin_l, inL_strs, vB_some_, vNB_some_, ↓Xx_lc, ↓Xt_lc, ↓kLc_eq, ↓kLcR_eq, ↓kLe_d, ↓kLqb_eq, ↓kLq_eq, ↓lc_1, ↓lc_10, ↓lc_2, ↓lc_20, wipe_0, wipe_s, ↓kR2_eq, ↓kR2b_eq, ↓kR2c_eq, ↓kR2d_eq, ↓Xi_rng2, ↓kN_nx, ↓kN_rt, ↓kN_bk, ↓kN_ct, ↓Xy_skip, ↓Xy_seq, ↓kD_eq, ↓Xx_cst, ↓Xx_gc, ↓kV_eq, ↓Xx_var, ↓kM_eq, ↓Xx_mov, ↓kP_eq, ↓Xx_pk, ↓k1b_eq, ↓k1_eq, ↓Xx_p1, ↓k2d_eq, ↓k2c_eq, ↓k2b_eq, ↓k2_eq, ↓Xx_p2, ↓kIb_eq, ↓kI_eq, ↓Xx_isi, ↓kSd_eq, ↓kSc_eq, ↓kSb_eq, ↓kS_eq, ↓Xx_slc, ↓Xx_noE, ↓kOb_eq, ↓kO_eq, ↓Xx_so, ↓kTb_eq, ↓kT_eq, ↓Xx_tup, ↓kLb_eq, ↓kL_eq, ↓Xx_lst, ↓kCb_eq, ↓kC_eq, ↓Xx_call, ↓Xx_nil, ↓kAb_eq, ↓kA_eq, ↓Xx_cons, ↓Xx_one, ↓kAnb_eq, ↓kAn_eq, ↓Xx_and, ↓kOrb_eq, ↓kOr_eq, ↓Xx_or, ↓kNob_eq, ↓kNo_eq, ↓Xx_not, ↓kIfb_eq, ↓kIf_eq, ↓Xx_if, ↓kTrb_eq, ↓kTr_eq, ↓Xt_cst, ↓Xt_var, ↓Xt_pk, ↓Xt_p1, ↓Xt_p2, ↓Xt_isi, ↓Xt_call, ↓Xt_slc, ↓kE_eq, ↓kIv_d, ↓Xi_val, ↓kRb_eq, ↓kR_eq, ↓Xi_rng1, ↓kEnb_eq, ↓kEn_d, ↓Xi_enu, ↓kAs_d, ↓Xy_asg, ↓kApc_eq, ↓kApb_d, ↓kAp_eq, ↓Xy_app, ↓kX_eq, ↓Xy_ex, ↓kRt_d, ↓Xy_ret, ↓Xy_retN, ↓kItb_eq, ↓kIt_eq, ↓Xy_ite, ↓kF_eq, ↓Xy_for1, ↓kFT_eq, ↓Xy_forT, sl_zero, sl_succ, sd_some, sp_some, sp_if, sp_ifn, sb_some, sf_some, si_some, si_if, sint_some, so_some, res_d, res_pk, tv_t_d, tv_f, resL_nil, resL_cons, fz_d, fz_p, q_neg, q_len_s, q_len_l, q_len_t, q_int, q_int_b, q_add, q_add_s, q_sub, q_mul, q_fdiv, q_mod, q_pow, q_lt, q_le, q_gt, q_ge, q_eq_i, q_eq_s, q_eq_b, q_ne_i, q_ne_s, q_ne_b, q_in_s, q_nin_s, q_is_n, q_is_i, q_is_s, q_is_l, q_is_t, q_nn_n, q_nn_i, q_nn_s, q_nn_l, q_nn_t, q_idx_l, q_idx_t, q_idx_s, q_sl_l, q_sl_s, shr_i, shr_b, shr_s, shr_n, shr_l, own_l, own_t, own_i, own_s, own_b, own_n, ownL_nil, ownL_cons, frz_l0, frz_l1, frz_t, frz_i, frz_s, frz_b, frz_n, frzL_nil, frzL_cons, at_0, at_1, at_2, disp_eq, it_l0, it_t, it_s, eno_s, eno_l, ty_ii, ty_ib, ty_is, ty_ss, ty_si, ty_bb, ty_bi, ty_ll, ty_tt, tr_b, tr_i, tr_l, dat_v, dat_l, dat_t, Option.bind_some, Option.map_some, Bool.or_false, Bool.false_or, Bool.true_and, List.set_cons_zero, List.set_cons_succ, if_true, if_false, Bool.false_eq_true, Bool.not_true, Bool.not_false, ↓reduceIte, List.map_cons, List.map_nil, List.cons_append, List.nil_append, List.replicate_succ, List.replicate_zero, List.length_cons, List.length_nil, Nat.reduceSub, Nat.reduceAdd, true_and, reduceCtorEq, false_and, false_or, or_false, exists_false, Nat.reduceLeDiff, Int.reduceLT, Int.reduceLE, Int.reduceNeg, decide_true, and_self, and_true, Int.toNat_natCast]
    refine ⟨⟨by omega, by omega⟩, ?_⟩
    refine for_inv (fun j e => ∃ (l' : List Int) (o6 : Option D), e = [some (.lst false (ns.map D.int)), some (.int m), some (.lst true (l'.map D.int)), some (.int s), o4, o5, o6] ∧ (∀ x ∈ l', Small x) ∧ l'.length = l.length + j) ⟨l, o6, rfl, hl, rfl⟩ ?_ ?_
    · rintro j y e hy ⟨l', o6', rfl, hl', hlen'⟩
      obtain ⟨hj, rfl⟩ := rng_get hy
      have hj : j < m := by simpa using hj
      refine (r_mixed2 n s ((j : Int) + 127)).elim fun i1 H => ?_
      have h1 := H.1
      have b1 := H.2.1
      have b2 := H.2.2
      rw [lp1_eq]
      simp (config := {maxSteps := 4000000}) only [q_is_bb, q_nn_bb, q_eq_ns, q_eq_sn, q_eq_nn, q_ne_ns, q_ne_sn, q_ne_nn, q_in_t, q_in_l, q_nin_l, inL_strs, vB_some_, vNB_some_, ↓Xx_lc, ↓Xt_lc, ↓kLc_eq, ↓kLcR_eq, ↓kLe_d, ↓kLqb_eq, ↓kLq_eq, ↓lc_1, ↓lc_10, ↓lc_2, ↓lc_20, wipe_0, wipe_s, ↓kR2_eq, ↓kR2b_eq, ↓kR2c_eq, ↓kR2d_eq, ↓Xi_rng2, ↓kN_nx, ↓kN_rt, ↓kN_bk, ↓kN_ct, ↓Xy_skip, ↓Xy_seq, ↓kD_eq, ↓Xx_cst, ↓Xx_gc, ↓kV_eq, ↓Xx_var, ↓kM_eq, ↓Xx_mov, ↓kP_eq, ↓Xx_pk, ↓k1b_eq, ↓k1_eq, ↓Xx_p1, ↓k2d_eq, ↓k2c_eq, ↓k2b_eq, ↓k2_eq, ↓Xx_p2, ↓kIb_eq, ↓kI_eq, ↓Xx_isi, ↓kSd_eq, ↓kSc_eq, ↓kSb_eq, ↓kS_eq, ↓Xx_slc, ↓Xx_noE, ↓kOb_eq, ↓kO_eq, ↓Xx_so, ↓kTb_eq, ↓kT_eq, ↓Xx_tup, ↓kLb_eq, ↓kL_eq, ↓Xx_lst, ↓kCb_eq, ↓kC_eq, ↓Xx_call, ↓Xx_nil, ↓kAb_eq, ↓kA_eq, ↓Xx_cons, ↓Xx_one, ↓kAnb_eq, ↓kAn_eq, ↓Xx_and, ↓kOrb_eq, ↓kOr_eq, ↓Xx_or, ↓kNob_eq, ↓kNo_eq, ↓Xx_not, ↓kIfb_eq, ↓kIf_eq, ↓Xx_if, ↓kTrb_eq, ↓kTr_eq, ↓Xt_cst, ↓Xt_var, ↓Xt_pk, ↓Xt_p1, ↓Xt_p2, ↓Xt_isi, ↓Xt_call, ↓Xt_slc, ↓kE_eq, ↓kIv_d, ↓Xi_val, ↓kRb_eq, ↓kR_eq, ↓Xi_rng1, ↓kEnb_eq, ↓kEn_d, ↓Xi_enu, ↓kAs_d, ↓Xy_asg, ↓kApc_eq, ↓kApb_d, ↓kAp_eq, ↓Xy_app, ↓kX_eq, ↓Xy_ex, ↓kRt_d, ↓Xy_ret, ↓Xy_retN, ↓kItb_eq, ↓kIt_eq, ↓Xy_ite, ↓kF_eq, ↓Xy_for1, ↓kFT_eq, ↓Xy_forT, sl_zero, sl_succ, sd_some, sp_some, sp_if, sp_ifn, sb_some, sf_some, si_some, si_if, sint_some, so_some, res_d, res_pk, tv_t_d, tv_f, resL_nil, resL_cons, fz_d, fz_p, q_neg, q_len_s, q_len_l, q_len_t, q_int, q_int_b, q_add, q_add_s, q_sub, q_mul, q_fdiv, q_mod, q_pow, q_lt, q_le, q_gt, q_ge, q_eq_i, q_eq_s, q_eq_b, q_ne_i, q_ne_s, q_ne_b, q_in_s, q_nin_s, q_is_n, q_is_i, q_is_s, q_is_l, q_is_t, q_nn_n, q_nn_i, q_nn_s, q_nn_l, q_nn_t, q_idx_l, q_idx_t, q_idx_s, q_sl_l, q_sl_s, shr_i, shr_b, shr_s, shr_n, shr_l, own_l, own_t, own_i, own_s, own_b, own_n, ownL_nil, ownL_cons, frz_l0, frz_l1, frz_t, frz_i, frz_s, frz_b, frz_n, frzL_nil, frzL_cons, at_0, at_1, at_2, disp_eq, it_l0, it_t, it_s, eno_s, eno_l, ty_ii, ty_ib, ty_is, ty_ss, ty_si, ty_bb, ty_bi, ty_ll, ty_tt, tr_b, tr_i, tr_l, dat_v, dat_l, dat_t, Option.bind_some, Option.map_some, Bool.or_false, Bool.false_or, Bool.true_and, List.set_cons_zero, List.set_cons_succ, if_true, if_false, Bool.false_eq_true, Bool.not_true, Bool.not_false, ↓reduceIte, List.map_cons, List.map_nil, List.cons_append, List.nil_append, List.replicate_succ, List.replicate_zero, List.length_cons, List.length_nil, Nat.reduceSub, Nat.reduceAdd, true_and, reduceCtorEq, false_and, false_or, or_false, exists_false, Nat.reduceLeDiff, Int.reduceLT, Int.reduceLE, Int.reduceNeg, decide_true, and_self, and_true, Int.toNat_natCast, h1]
      refine ⟨line_lt (by rw [List.length_map]; omega), ?_⟩
      rw [map_snoc]
      exact ⟨_, _, rfl, small_snoc hl' ⟨b1, b2⟩, by simp; omega⟩
    · rintro e ⟨l', o6', rfl, hl', hlen'⟩
      rw [List.length_map, List.length_range] at hlen'
      have hlen' : l'.length = l.length + m := by simpa using hlen'
      simp (config := {maxSteps := 4000000}) only [q_is_bb, q_nn_bb, q_eq_ns, q_eq_sn, q_eq_nn, q_ne_ns, q_ne_sn, q_ne_nn, q_in_t, q_in_l, q_nin_l, inL_strs, vB_some_, vNB_some_, ↓Xx_lc, ↓Xt_lc, ↓kLc_eq, ↓kLcR_eq, ↓kLe_d, ↓kLqb_eq, ↓kLq_eq, ↓lc_1, ↓lc_10, ↓lc_2, ↓lc_20, wipe_0, wipe_s, ↓kR2_eq, ↓kR2b_eq, ↓kR2c_eq, ↓kR2d_eq, ↓Xi_rng2, ↓kN_nx, ↓kN_rt, ↓kN_bk, ↓kN_ct, ↓Xy_skip, ↓Xy_seq, ↓kD_eq, ↓Xx_cst, ↓Xx_gc, ↓kV_eq, ↓Xx_var, ↓kM_eq, ↓Xx_mov, ↓kP_eq, ↓Xx_pk, ↓k1b_eq, ↓k1_eq, ↓Xx_p1, ↓k2d_eq, ↓k2c_eq, ↓k2b_eq, ↓k2_eq, ↓Xx_p2, ↓kIb_eq, ↓kI_eq, ↓Xx_isi, ↓kSd_eq, ↓kSc_eq, ↓kSb_eq, ↓kS_eq, ↓Xx_slc, ↓Xx_noE, ↓kOb_eq, ↓kO_eq, ↓Xx_so, ↓kTb_eq, ↓kT_eq, ↓Xx_tup, ↓kLb_eq, ↓kL_eq, ↓Xx_lst, ↓kCb_eq, ↓kC_eq, ↓Xx_call, ↓Xx_nil, ↓kAb_eq, ↓kA_eq, ↓Xx_cons, ↓Xx_one, ↓kAnb_eq, ↓kAn_eq, ↓Xx_and, ↓kOrb_eq, ↓kOr_eq, ↓Xx_or, ↓kNob_eq, ↓kNo_eq, ↓Xx_not, ↓kIfb_eq, ↓kIf_eq, ↓Xx_if, ↓kTrb_eq, ↓kTr_eq, ↓Xt_cst, ↓Xt_var, ↓Xt_pk, ↓Xt_p1, ↓Xt_p2, ↓Xt_isi, ↓Xt_call, ↓Xt_slc, ↓kE_eq, ↓kIv_d, ↓Xi_val, ↓kRb_eq, ↓kR_eq, ↓Xi_rng1, ↓kEnb_eq, ↓kEn_d, ↓Xi_enu, ↓kAs_d, ↓Xy_asg, ↓kApc_eq, ↓kApb_d, ↓kAp_eq, ↓Xy_app, ↓kX_eq, ↓Xy_ex, ↓kRt_d, ↓Xy_ret, ↓Xy_retN, ↓kItb_eq, ↓kIt_eq, ↓Xy_ite, ↓kF_eq, ↓Xy_for1, ↓kFT_eq, ↓Xy_forT, sl_zero, sl_succ, sd_some, sp_some, sp_if, sp_ifn, sb_some, sf_some, si_some, si_if, sint_some, so_some, res_d, res_pk, tv_t_d, tv_f, resL_nil, resL_cons, fz_d, fz_p, q_neg, q_len_s, q_len_l, q_len_t, q_int, q_int_b, q_add, q_add_s, q_sub, q_mul, q_fdiv, q_mod, q_pow, q_lt, q_le, q_gt, q_ge, q_eq_i, q_eq_s, q_eq_b, q_ne_i, q_ne_s, q_ne_b, q_in_s, q_nin_s, q_is_n, q_is_i, q_is_s, q_is_l, q_is_t, q_nn_n, q_nn_i, q_nn_s, q_nn_l, q_nn_t, q_idx_l, q_idx_t, q_idx_s, q_sl_l, q_sl_s, shr_i, shr_b, shr_s, shr_n, shr_l, own_l, own_t, own_i, own_s, own_b, own_n, ownL_nil, ownL_cons, frz_l0, frz_l1, frz_t, frz_i, frz_s, frz_b, frz_n, frzL_nil, frzL_cons, at_0, at_1, at_2, disp_eq, it_l0, it_t, it_s, eno_s, eno_l, ty_ii, ty_ib, ty_is, ty_ss, ty_si, ty_bb, ty_bi, ty_ll, ty_tt, tr_b, tr_i, tr_l, dat_v, dat_l, dat_t, Option.bind_some, Option.map_some, Bool.or_false, Bool.false_or, Bool.true_and, List.set_cons_zero, List.set_cons_succ, if_true, if_false, Bool.false_eq_true, Bool.not_true, Bool.not_false, ↓reduceIte, List.map_cons, List.map_nil, List.cons_append, List.nil_append, List.replicate_succ, List.replicate_zero, List.length_cons, List.length_nil, Nat.reduceSub, Nat.reduceAdd, true_and, reduceCtorEq, false_and, false_or, or_false, exists_false, Nat.reduceLeDiff, Int.reduceLT, Int.reduceLE, Int.reduceNeg, decide_true, and_self, and_true, Int.toNat_natCast, primS]
      refine ⟨by simp [own_ints], _, rfl, l'.take m, by rw [cut_to (by omega)], by rw [List.length_take]; omega, fun x hx => hl' x (List.mem_of_mem_take hx)⟩
end Lw
namespace Lw
theorem pick {l : List Int} (h : ∀ x ∈ l, Small x) {i : Int} {k : Nat} (hi : i = k) (hk : k < l.length) : ∃ x, at_ (l.map D.int) i = some (.int x) ∧ Small x := by
  obtain ⟨x, hx, h1⟩ := at_ints hi hk
  exact ⟨x, h1, h x hx⟩
theorem size4 {x : Int} (h : Small x) : ∃ m : Nat, 1 + x % 4 = (m : Int) ∧ 1 ≤ m ∧ m ≤ 4 := by
  refine ⟨(1 + x % 4).toNat, ?_, ?_, ?_⟩ <;> omega
end Lw
namespace Lw
/-- the turns over enumerate(text) -/
def eF (F : Nat → Nat → Option D) : Nat → List Nat → List D
  | _, [] => []
  | i, a :: c => (F i a).toList ++ eF F (i + 1) c
theorem enum_fm {g : D → Option D} {F : Nat → Nat → Option D} (hg : ∀ (k a : Nat), g (.tup [.int k, .str [a]]) = F k a) : ∀ (c : List Nat) (i : Nat) (f : Nat → D → D), (∀ k x, f k x = .tup [.int ((k + i : Nat) : Int), x]) → ((c.map fun c => D.str [c]).mapIdx f).filterMap g = eF F i c
  | [], _, _, _ => by simp [eF]
  | a :: c, i, f, hf => by
    rw [List.map_cons, List.mapIdx_cons, List.filterMap_cons, eF]
    have ih := enum_fm hg c (i + 1) (fun k => f (k + 1)) (fun k x => by rw [hf]; congr 3; omega)
    rw [ih, hf 0, Nat.zero_add, hg i a]
    cases F i a <;> rfl
theorem enum_mem {c : List Nat} {x : D} (h : x ∈ (c.map fun c => D.str [c]).mapIdx fun k x => D.tup [.int k, x]) : ∃ k a, x = .tup [.int (k : Nat), .str [a]] ∧ c[k]? = some a := by
  obtain ⟨i, hi⟩ := List.getElem?_of_mem h
  rw [List.getElem?_mapIdx, List.getElem?_map] at hi
  cases q : c[i]? with
  | none => rw [q] at hi; cases hi
  | some a => rw [q] at hi; exact ⟨i, a, (Option.some.inj hi).symm, q⟩
theorem flat_one (l : List Nat) : (l.map fun x => [x]).flatten = l := by
  induction l with
  | nil => rfl
  | cons x l ih => simp [ih]
/-- the D at a place as a number and a sign -/
def two_ (F : Nat → Nat → Option D) : D → Option D
  | .tup [.int k, .str [a]] => F k.toNat a
  | _ => none
theorem two_eq {F : Nat → Nat → Option D} (k a : Nat) : two_ F (.tup [.int k, .str [a]]) = F k a := rfl
end Lw
namespace Lw
/-- opposite signs -/
def opc (a b : Nat) : Bool := (decide (a = 48) && decide (b = 49)) || (decide (a = 49) && decide (b = 48))
theorem opc_comm (a b : Nat) : opc a b = opc b a := by
  unfold opc
  rw [Bool.or_comm, Bool.and_comm, Bool.and_comm (decide (a = 48))]
theorem in01 (a b : Nat) : inL (.str [a, b]) [.str [48, 49], .str [49, 48]] = some (opc a b) := by
  have h := inL_strs (s := [a, b]) [[48, 49], [49, 48]]
  have e : [[48, 49], [49, 48]].map D.str = [.str [48, 49], .str [49, 48]] := rfl
  rw [e] at h
  rw [h]
  unfold opc
  congr 1
  simp [Bool.decide_or, Bool.decide_and]
/-- the places of opposite signs -/
def ops (c d : List Nat) : List Nat := (List.range c.length).filter fun k => opc (c.getD k 0) (d.getD k 0)
theorem ops_comm {c d : List Nat} (h : c.length = d.length) : ops c d = ops d c := by
  unfold ops
  rw [h]
  congr 1
  funext k
  exact opc_comm _ _
theorem ops_none {c d : List Nat} (h : ops c d = []) {k a b : Nat} (ha : c[k]? = some a) (hb : d[k]? = some b) : opc a b = false := by
  unfold ops at h
  rw [List.filter_eq_nil_iff] at h
  have hk : k < c.length := (List.getElem?_eq_some_iff.mp ha).1
  have := h k (List.mem_range.mpr hk)
  rw [List.getD_eq_getElem?_getD, List.getD_eq_getElem?_getD, ha, hb] at this
  simpa using this
theorem ops_some {c d : List Nat} (hl : c.length = d.length) (h : ops c d ≠ []) : ∃ (k a b : Nat), c[k]? = some a ∧ d[k]? = some b ∧ opc a b = true := by
  obtain ⟨k, hk⟩ := List.exists_mem_of_ne_nil _ h
  unfold ops at hk
  rw [List.mem_filter] at hk
  have hk1 := List.mem_range.mp hk.1
  obtain ⟨a, ha⟩ := get_ex (s := c) (k := k) hk1
  obtain ⟨b, hb⟩ := get_ex (s := d) (k := k) (by omega)
  refine ⟨k, a, b, ha, hb, ?_⟩
  have := hk.2
  rw [List.getD_eq_getElem?_getD, List.getD_eq_getElem?_getD, ha, hb] at this
  exact this
theorem fm_filter {p : Nat → Bool} : ∀ (l : List Nat), (l.filterMap fun k => if p k then some (D.int k) else none) = (l.filter p).map fun (k : Nat) => D.int k
  | [] => rfl
  | a :: l => by
    rw [List.filterMap_cons, List.filter_cons, fm_filter l]
    cases p a <;> simp
theorem enum_range (c : List Nat) : ((c.map fun c => D.str [c]).mapIdx fun k x => D.tup [.int k, x]) = (List.range c.length).map fun (k : Nat) => D.tup [.int k, .str [c.getD k 0]] := by
  apply List.ext_getElem?
  intro i
  rw [List.getElem?_mapIdx, List.getElem?_map, List.getElem?_map]
  by_cases h : i < c.length
  · rw [List.getElem?_range h, Option.map_some, List.getD_eq_getElem?_getD, List.getElem?_eq_getElem h]
    rfl
  · rw [List.getElem?_eq_none (by omega), List.getElem?_eq_none (by simpa using h)]
    rfl
theorem r_opposed (n : Nat) (c d : List Nat) (hl : c.length = d.length) (hs : c.length ≤ 1000) : OI.run gcs tab (n + 1) 5 [.str c, .str d] = some (.ok (.lst true ((ops c d).map fun (k : Nat) => D.int k))) := by
  refine run_rt (d := d5) rfl rfl ?_
  simp (config := {maxSteps := 4000000}) only [q_is_bb, q_nn_bb, q_eq_ns, q_eq_sn, q_eq_nn, q_ne_ns, q_ne_sn, q_ne_nn, q_in_t, q_in_l, q_nin_l, inL_strs, vB_some_, vNB_some_, ↓Xx_lc, ↓Xt_lc, ↓kLc_eq, ↓kLcR_eq, ↓kLe_d, ↓kLqb_eq, ↓kLq_eq, ↓lc_1, ↓lc_10, ↓lc_2, ↓lc_20, wipe_0, wipe_s, ↓kR2_eq, ↓kR2b_eq, ↓kR2c_eq, ↓kR2d_eq, ↓Xi_rng2, ↓kN_nx, ↓kN_rt, ↓kN_bk, ↓kN_ct, ↓Xy_skip, ↓Xy_seq, ↓kD_eq, ↓Xx_cst, ↓Xx_gc, ↓kV_eq, ↓Xx_var, ↓kM_eq, ↓Xx_mov, ↓kP_eq, ↓Xx_pk, ↓k1b_eq, ↓k1_eq, ↓Xx_p1, ↓k2d_eq, ↓k2c_eq, ↓k2b_eq, ↓k2_eq, ↓Xx_p2, ↓kIb_eq, ↓kI_eq, ↓Xx_isi, ↓kSd_eq, ↓kSc_eq, ↓kSb_eq, ↓kS_eq, ↓Xx_slc, ↓Xx_noE, ↓kOb_eq, ↓kO_eq, ↓Xx_so, ↓kTb_eq, ↓kT_eq, ↓Xx_tup, ↓kLb_eq, ↓kL_eq, ↓Xx_lst, ↓kCb_eq, ↓kC_eq, ↓Xx_call, ↓Xx_nil, ↓kAb_eq, ↓kA_eq, ↓Xx_cons, ↓Xx_one, ↓kAnb_eq, ↓kAn_eq, ↓Xx_and, ↓kOrb_eq, ↓kOr_eq, ↓Xx_or, ↓kNob_eq, ↓kNo_eq, ↓Xx_not, ↓kIfb_eq, ↓kIf_eq, ↓Xx_if, ↓kTrb_eq, ↓kTr_eq, ↓Xt_cst, ↓Xt_var, ↓Xt_pk, ↓Xt_p1, ↓Xt_p2, ↓Xt_isi, ↓Xt_call, ↓Xt_slc, ↓kE_eq, ↓kIv_d, ↓Xi_val, ↓kRb_eq, ↓kR_eq, ↓Xi_rng1, ↓kEnb_eq, ↓kEn_d, ↓Xi_enu, ↓kAs_d, ↓Xy_asg, ↓kApc_eq, ↓kApb_d, ↓kAp_eq, ↓Xy_app, ↓kX_eq, ↓Xy_ex, ↓kRt_d, ↓Xy_ret, ↓Xy_retN, ↓kItb_eq, ↓kIt_eq, ↓Xy_ite, ↓kF_eq, ↓Xy_for1, ↓kFT_eq, ↓Xy_forT, sl_zero, sl_succ, sd_some, sp_some, sp_if, sp_ifn, sb_some, sf_some, si_some, si_if, sint_some, so_some, res_d, res_pk, tv_t_d, tv_f, resL_nil, resL_cons, fz_d, fz_p, q_neg, q_len_s, q_len_l, q_len_t, q_int, q_int_b, q_add, q_add_s, q_sub, q_mul, q_fdiv, q_mod, q_pow, q_lt, q_le, q_gt, q_ge, q_eq_i, q_eq_s, q_eq_b, q_ne_i, q_ne_s, q_ne_b, q_in_s, q_nin_s, q_is_n, q_is_i, q_is_s, q_is_l, q_is_t, q_nn_n, q_nn_i, q_nn_s, q_nn_l, q_nn_t, q_idx_l, q_idx_t, q_idx_s, q_sl_l, q_sl_s, shr_i, shr_b, shr_s, shr_n, shr_l, own_l, own_t, own_i, own_s, own_b, own_n, ownL_nil, ownL_cons, frz_l0, frz_l1, frz_t, frz_i, frz_s, frz_b, frz_n, frzL_nil, frzL_cons, at_0, at_1, at_2, disp_eq, it_l0, it_t, it_s, eno_s, eno_l, ty_ii, ty_ib, ty_is, ty_ss, ty_si, ty_bb, ty_bi, ty_ll, ty_tt, tr_b, tr_i, tr_l, dat_v, dat_l, dat_t, Option.bind_some, Option.map_some, Bool.or_false, Bool.false_or, Bool.true_and, List.set_cons_zero, List.set_cons_succ, if_true, if_false, Bool.false_eq_true, Bool.not_true, Bool.not_false, ↓reduceIte, List.map_cons, List.map_nil, List.cons_append, List.nil_append, List.replicate_succ, List.replicate_zero, List.length_cons, List.length_nil, Nat.reduceSub, Nat.reduceAdd, true_and, reduceCtorEq, false_and, false_or, or_false, exists_false, Nat.reduceLeDiff, Int.reduceLT, Int.reduceLE, Int.reduceNeg, decide_true, and_self, and_true, Int.toNat_natCast, d5, c5]
  refine comp_sat (two_ fun k a => if opc a (d.getD k 0) then some (.int k) else none) (fun x hx => ?_) (by simp; omega) ?_
  · obtain ⟨k, a, rfl, hk⟩ := enum_mem hx
    have hk' : k < c.length := (List.getElem?_eq_some_iff.mp hk).1
    obtain ⟨b, hb⟩ := get_ex (s := d) (k := k) (by omega)
    have hb' : d.getD k 0 = b := by rw [List.getD_eq_getElem?_getD, hb]; rfl
    simp (config := {maxSteps := 4000000}) only [q_is_bb, q_nn_bb, q_eq_ns, q_eq_sn, q_eq_nn, q_ne_ns, q_ne_sn, q_ne_nn, q_in_t, q_in_l, q_nin_l, inL_strs, vB_some_, vNB_some_, ↓Xx_lc, ↓Xt_lc, ↓kLc_eq, ↓kLcR_eq, ↓kLe_d, ↓kLqb_eq, ↓kLq_eq, ↓lc_1, ↓lc_10, ↓lc_2, ↓lc_20, wipe_0, wipe_s, ↓kR2_eq, ↓kR2b_eq, ↓kR2c_eq, ↓kR2d_eq, ↓Xi_rng2, ↓kN_nx, ↓kN_rt, ↓kN_bk, ↓kN_ct, ↓Xy_skip, ↓Xy_seq, ↓kD_eq, ↓Xx_cst, ↓Xx_gc, ↓kV_eq, ↓Xx_var, ↓kM_eq, ↓Xx_mov, ↓kP_eq, ↓Xx_pk, ↓k1b_eq, ↓k1_eq, ↓Xx_p1, ↓k2d_eq, ↓k2c_eq, ↓k2b_eq, ↓k2_eq, ↓Xx_p2, ↓kIb_eq, ↓kI_eq, ↓Xx_isi, ↓kSd_eq, ↓kSc_eq, ↓kSb_eq, ↓kS_eq, ↓Xx_slc, ↓Xx_noE, ↓kOb_eq, ↓kO_eq, ↓Xx_so, ↓kTb_eq, ↓kT_eq, ↓Xx_tup, ↓kLb_eq, ↓kL_eq, ↓Xx_lst, ↓kCb_eq, ↓kC_eq, ↓Xx_call, ↓Xx_nil, ↓kAb_eq, ↓kA_eq, ↓Xx_cons, ↓Xx_one, ↓kAnb_eq, ↓kAn_eq, ↓Xx_and, ↓kOrb_eq, ↓kOr_eq, ↓Xx_or, ↓kNob_eq, ↓kNo_eq, ↓Xx_not, ↓kIfb_eq, ↓kIf_eq, ↓Xx_if, ↓kTrb_eq, ↓kTr_eq, ↓Xt_cst, ↓Xt_var, ↓Xt_pk, ↓Xt_p1, ↓Xt_p2, ↓Xt_isi, ↓Xt_call, ↓Xt_slc, ↓kE_eq, ↓kIv_d, ↓Xi_val, ↓kRb_eq, ↓kR_eq, ↓Xi_rng1, ↓kEnb_eq, ↓kEn_d, ↓Xi_enu, ↓kAs_d, ↓Xy_asg, ↓kApc_eq, ↓kApb_d, ↓kAp_eq, ↓Xy_app, ↓kX_eq, ↓Xy_ex, ↓kRt_d, ↓Xy_ret, ↓Xy_retN, ↓kItb_eq, ↓kIt_eq, ↓Xy_ite, ↓kF_eq, ↓Xy_for1, ↓kFT_eq, ↓Xy_forT, sl_zero, sl_succ, sd_some, sp_some, sp_if, sp_ifn, sb_some, sf_some, si_some, si_if, sint_some, so_some, res_d, res_pk, tv_t_d, tv_f, resL_nil, resL_cons, fz_d, fz_p, q_neg, q_len_s, q_len_l, q_len_t, q_int, q_int_b, q_add, q_add_s, q_sub, q_mul, q_fdiv, q_mod, q_pow, q_lt, q_le, q_gt, q_ge, q_eq_i, q_eq_s, q_eq_b, q_ne_i, q_ne_s, q_ne_b, q_in_s, q_nin_s, q_is_n, q_is_i, q_is_s, q_is_l, q_is_t, q_nn_n, q_nn_i, q_nn_s, q_nn_l, q_nn_t, q_idx_l, q_idx_t, q_idx_s, q_sl_l, q_sl_s, shr_i, shr_b, shr_s, shr_n, shr_l, own_l, own_t, own_i, own_s, own_b, own_n, ownL_nil, ownL_cons, frz_l0, frz_l1, frz_t, frz_i, frz_s, frz_b, frz_n, frzL_nil, frzL_cons, at_0, at_1, at_2, disp_eq, it_l0, it_t, it_s, eno_s, eno_l, ty_ii, ty_ib, ty_is, ty_ss, ty_si, ty_bb, ty_bi, ty_ll, ty_tt, tr_b, tr_i, tr_l, dat_v, dat_l, dat_t, Option.bind_some, Option.map_some, Bool.or_false, Bool.false_or, Bool.true_and, List.set_cons_zero, List.set_cons_succ, if_true, if_false, Bool.false_eq_true, Bool.not_true, Bool.not_false, ↓reduceIte, List.map_cons, List.map_nil, List.cons_append, List.nil_append, List.replicate_succ, List.replicate_zero, List.length_cons, List.length_nil, Nat.reduceSub, Nat.reduceAdd, true_and, reduceCtorEq, false_and, false_or, or_false, exists_false, Nat.reduceLeDiff, Int.reduceLT, Int.reduceLE, Int.reduceNeg, decide_true, and_self, and_true, Int.toNat_natCast, at_nat hb, two_eq, hb', in01]
    refine ⟨line_le (by simp), ?_⟩
    cases opc a b <;> simp
  · rw [enum_range, List.filterMap_map]
    have e : (two_ fun k a => if opc a (d.getD k 0) then some (D.int k) else none) ∘ (fun (k : Nat) => D.tup [.int k, .str [c.getD k 0]]) = fun k => if opc (c.getD k 0) (d.getD k 0) then some (D.int k) else none := by
      funext k
      rfl
    rw [e, fm_filter]
    simp (config := {maxSteps := 4000000}) only [q_is_bb, q_nn_bb, q_eq_ns, q_eq_sn, q_eq_nn, q_ne_ns, q_ne_sn, q_ne_nn, q_in_t, q_in_l, q_nin_l, inL_strs, vB_some_, vNB_some_, ↓Xx_lc, ↓Xt_lc, ↓kLc_eq, ↓kLcR_eq, ↓kLe_d, ↓kLqb_eq, ↓kLq_eq, ↓lc_1, ↓lc_10, ↓lc_2, ↓lc_20, wipe_0, wipe_s, ↓kR2_eq, ↓kR2b_eq, ↓kR2c_eq, ↓kR2d_eq, ↓Xi_rng2, ↓kN_nx, ↓kN_rt, ↓kN_bk, ↓kN_ct, ↓Xy_skip, ↓Xy_seq, ↓kD_eq, ↓Xx_cst, ↓Xx_gc, ↓kV_eq, ↓Xx_var, ↓kM_eq, ↓Xx_mov, ↓kP_eq, ↓Xx_pk, ↓k1b_eq, ↓k1_eq, ↓Xx_p1, ↓k2d_eq, ↓k2c_eq, ↓k2b_eq, ↓k2_eq, ↓Xx_p2, ↓kIb_eq, ↓kI_eq, ↓Xx_isi, ↓kSd_eq, ↓kSc_eq, ↓kSb_eq, ↓kS_eq, ↓Xx_slc, ↓Xx_noE, ↓kOb_eq, ↓kO_eq, ↓Xx_so, ↓kTb_eq, ↓kT_eq, ↓Xx_tup, ↓kLb_eq, ↓kL_eq, ↓Xx_lst, ↓kCb_eq, ↓kC_eq, ↓Xx_call, ↓Xx_nil, ↓kAb_eq, ↓kA_eq, ↓Xx_cons, ↓Xx_one, ↓kAnb_eq, ↓kAn_eq, ↓Xx_and, ↓kOrb_eq, ↓kOr_eq, ↓Xx_or, ↓kNob_eq, ↓kNo_eq, ↓Xx_not, ↓kIfb_eq, ↓kIf_eq, ↓Xx_if, ↓kTrb_eq, ↓kTr_eq, ↓Xt_cst, ↓Xt_var, ↓Xt_pk, ↓Xt_p1, ↓Xt_p2, ↓Xt_isi, ↓Xt_call, ↓Xt_slc, ↓kE_eq, ↓kIv_d, ↓Xi_val, ↓kRb_eq, ↓kR_eq, ↓Xi_rng1, ↓kEnb_eq, ↓kEn_d, ↓Xi_enu, ↓kAs_d, ↓Xy_asg, ↓kApc_eq, ↓kApb_d, ↓kAp_eq, ↓Xy_app, ↓kX_eq, ↓Xy_ex, ↓kRt_d, ↓Xy_ret, ↓Xy_retN, ↓kItb_eq, ↓kIt_eq, ↓Xy_ite, ↓kF_eq, ↓Xy_for1, ↓kFT_eq, ↓Xy_forT, sl_zero, sl_succ, sd_some, sp_some, sp_if, sp_ifn, sb_some, sf_some, si_some, si_if, sint_some, so_some, res_d, res_pk, tv_t_d, tv_f, resL_nil, resL_cons, fz_d, fz_p, q_neg, q_len_s, q_len_l, q_len_t, q_int, q_int_b, q_add, q_add_s, q_sub, q_mul, q_fdiv, q_mod, q_pow, q_lt, q_le, q_gt, q_ge, q_eq_i, q_eq_s, q_eq_b, q_ne_i, q_ne_s, q_ne_b, q_in_s, q_nin_s, q_is_n, q_is_i, q_is_s, q_is_l, q_is_t, q_nn_n, q_nn_i, q_nn_s, q_nn_l, q_nn_t, q_idx_l, q_idx_t, q_idx_s, q_sl_l, q_sl_s, shr_i, shr_b, shr_s, shr_n, shr_l, own_l, own_t, own_i, own_s, own_b, own_n, ownL_nil, ownL_cons, frz_l0, frz_l1, frz_t, frz_i, frz_s, frz_b, frz_n, frzL_nil, frzL_cons, at_0, at_1, at_2, disp_eq, it_l0, it_t, it_s, eno_s, eno_l, ty_ii, ty_ib, ty_is, ty_ss, ty_si, ty_bb, ty_bi, ty_ll, ty_tt, tr_b, tr_i, tr_l, dat_v, dat_l, dat_t, Option.bind_some, Option.map_some, Bool.or_false, Bool.false_or, Bool.true_and, List.set_cons_zero, List.set_cons_succ, if_true, if_false, Bool.false_eq_true, Bool.not_true, Bool.not_false, ↓reduceIte, List.map_cons, List.map_nil, List.cons_append, List.nil_append, List.replicate_succ, List.replicate_zero, List.length_cons, List.length_nil, Nat.reduceSub, Nat.reduceAdd, true_and, reduceCtorEq, false_and, false_or, or_false, exists_false, Nat.reduceLeDiff, Int.reduceLT, Int.reduceLE, Int.reduceNeg, decide_true, and_self, and_true, Int.toNat_natCast]
    rfl
/-- the cube of the common points; where signs are opposite, the consensus -/
def mg : List Nat → List Nat → List Nat
  | a :: c, b :: d => (if a = 45 then b else if b = 45 ∨ b = a then a else 45) :: mg c d
  | _, _ => []
theorem mg_len : ∀ {c d : List Nat}, c.length = d.length → (mg c d).length = c.length
  | [], [], _ => rfl
  | a :: c, b :: d, h => by rw [mg, List.length_cons, List.length_cons, mg_len (by simpa using h)]
  | [], _ :: _, h => by simp at h
  | _ :: _, [], h => by simp at h
theorem mg_get : ∀ {c d : List Nat} {j a b : Nat}, c[j]? = some a → d[j]? = some b → (mg c d)[j]? = some (if a = 45 then b else if b = 45 ∨ b = a then a else 45)
  | x :: c, y :: d, 0, a, b, ha, hb => by
    simp only [List.getElem?_cons_zero, Option.some.injEq] at ha hb
    subst ha hb
    rfl
  | x :: c, y :: d, j + 1, a, b, ha, hb => by
    rw [List.getElem?_cons_succ] at ha hb
    rw [mg, List.getElem?_cons_succ]
    exact mg_get ha hb
  | [], _, _, _, _, ha, _ => by simp at ha
  | _ :: _, [], _, _, _, _, hb => by simp at hb
theorem mg_isC : ∀ {c d : List Nat}, IsC c → IsC d → IsC (mg c d)
  | [], [], _, _ => by intro x h; cases h
  | [], _ :: _, _, _ => by intro x h; cases h
  | _ :: _, [], _, _ => by intro x h; cases h
  | a :: c, b :: d, h, h2 => by
    intro x m
    rw [mg] at m
    rcases List.mem_cons.mp m with q | q
    · rw [q]
      split
      · exact h2 b (List.mem_cons_self ..)
      · split
        · exact h a (List.mem_cons_self ..)
        · exact .inr (.inr rfl)
    · exact mg_isC (fun y hy => h y (List.mem_cons_of_mem _ hy)) (fun y hy => h2 y (List.mem_cons_of_mem _ hy)) x q
theorem r_merged (n : Nat) (c d : List Nat) (hl : c.length = d.length) (hs : c.length ≤ 1000) : OI.run gcs tab (n + 1) 6 [.str c, .str d] = some (.ok (.str (mg c d))) := by
  refine run_rt (d := d6) rfl rfl ?_
  simp (config := {maxSteps := 4000000}) only [q_is_bb, q_nn_bb, q_eq_ns, q_eq_sn, q_eq_nn, q_ne_ns, q_ne_sn, q_ne_nn, q_in_t, q_in_l, q_nin_l, inL_strs, vB_some_, vNB_some_, ↓Xx_lc, ↓Xt_lc, ↓kLc_eq, ↓kLcR_eq, ↓kLe_d, ↓kLqb_eq, ↓kLq_eq, ↓lc_1, ↓lc_10, ↓lc_2, ↓lc_20, wipe_0, wipe_s, ↓kR2_eq, ↓kR2b_eq, ↓kR2c_eq, ↓kR2d_eq, ↓Xi_rng2, ↓kN_nx, ↓kN_rt, ↓kN_bk, ↓kN_ct, ↓Xy_skip, ↓Xy_seq, ↓kD_eq, ↓Xx_cst, ↓Xx_gc, ↓kV_eq, ↓Xx_var, ↓kM_eq, ↓Xx_mov, ↓kP_eq, ↓Xx_pk, ↓k1b_eq, ↓k1_eq, ↓Xx_p1, ↓k2d_eq, ↓k2c_eq, ↓k2b_eq, ↓k2_eq, ↓Xx_p2, ↓kIb_eq, ↓kI_eq, ↓Xx_isi, ↓kSd_eq, ↓kSc_eq, ↓kSb_eq, ↓kS_eq, ↓Xx_slc, ↓Xx_noE, ↓kOb_eq, ↓kO_eq, ↓Xx_so, ↓kTb_eq, ↓kT_eq, ↓Xx_tup, ↓kLb_eq, ↓kL_eq, ↓Xx_lst, ↓kCb_eq, ↓kC_eq, ↓Xx_call, ↓Xx_nil, ↓kAb_eq, ↓kA_eq, ↓Xx_cons, ↓Xx_one, ↓kAnb_eq, ↓kAn_eq, ↓Xx_and, ↓kOrb_eq, ↓kOr_eq, ↓Xx_or, ↓kNob_eq, ↓kNo_eq, ↓Xx_not, ↓kIfb_eq, ↓kIf_eq, ↓Xx_if, ↓kTrb_eq, ↓kTr_eq, ↓Xt_cst, ↓Xt_var, ↓Xt_pk, ↓Xt_p1, ↓Xt_p2, ↓Xt_isi, ↓Xt_call, ↓Xt_slc, ↓kE_eq, ↓kIv_d, ↓Xi_val, ↓kRb_eq, ↓kR_eq, ↓Xi_rng1, ↓kEnb_eq, ↓kEn_d, ↓Xi_enu, ↓kAs_d, ↓Xy_asg, ↓kApc_eq, ↓kApb_d, ↓kAp_eq, ↓Xy_app, ↓kX_eq, ↓Xy_ex, ↓kRt_d, ↓Xy_ret, ↓Xy_retN, ↓kItb_eq, ↓kIt_eq, ↓Xy_ite, ↓kF_eq, ↓Xy_for1, ↓kFT_eq, ↓Xy_forT, sl_zero, sl_succ, sd_some, sp_some, sp_if, sp_ifn, sb_some, sf_some, si_some, si_if, sint_some, so_some, res_d, res_pk, tv_t_d, tv_f, resL_nil, resL_cons, fz_d, fz_p, q_neg, q_len_s, q_len_l, q_len_t, q_int, q_int_b, q_add, q_add_s, q_sub, q_mul, q_fdiv, q_mod, q_pow, q_lt, q_le, q_gt, q_ge, q_eq_i, q_eq_s, q_eq_b, q_ne_i, q_ne_s, q_ne_b, q_in_s, q_nin_s, q_is_n, q_is_i, q_is_s, q_is_l, q_is_t, q_nn_n, q_nn_i, q_nn_s, q_nn_l, q_nn_t, q_idx_l, q_idx_t, q_idx_s, q_sl_l, q_sl_s, shr_i, shr_b, shr_s, shr_n, shr_l, own_l, own_t, own_i, own_s, own_b, own_n, ownL_nil, ownL_cons, frz_l0, frz_l1, frz_t, frz_i, frz_s, frz_b, frz_n, frzL_nil, frzL_cons, at_0, at_1, at_2, disp_eq, it_l0, it_t, it_s, eno_s, eno_l, ty_ii, ty_ib, ty_is, ty_ss, ty_si, ty_bb, ty_bi, ty_ll, ty_tt, tr_b, tr_i, tr_l, dat_v, dat_l, dat_t, Option.bind_some, Option.map_some, Bool.or_false, Bool.false_or, Bool.true_and, List.set_cons_zero, List.set_cons_succ, if_true, if_false, Bool.false_eq_true, Bool.not_true, Bool.not_false, ↓reduceIte, List.map_cons, List.map_nil, List.cons_append, List.nil_append, List.replicate_succ, List.replicate_zero, List.length_cons, List.length_nil, Nat.reduceSub, Nat.reduceAdd, true_and, reduceCtorEq, false_and, false_or, or_false, exists_false, Nat.reduceLeDiff, Int.reduceLT, Int.reduceLE, Int.reduceNeg, decide_true, and_self, and_true, Int.toNat_natCast, d6, c6]
  refine for_inv (fun i e => ∃ o3 o4, e = [some (.str c), some (.str d), some (.lst true ((((mg c d).take i).map fun x => [x]).map D.str)), o3, o4]) ⟨none, none, by simp⟩ ?_ ?_
  · rintro i x e hx ⟨o3, o4, rfl⟩
    obtain ⟨k, a, rfl, hk⟩ := enum_mem (List.mem_of_getElem? hx)
    have hik : i = k := by
      rw [List.getElem?_mapIdx] at hx
      cases q : (c.map fun c => D.str [c])[i]? with
      | none => rw [q] at hx; cases hx
      | some z => rw [q] at hx; simp at hx; omega
    subst hik
    have hk' : i < c.length := (List.getElem?_eq_some_iff.mp hk).1
    obtain ⟨b, hb⟩ := get_ex (s := d) (k := i) (by omega)
    have ht := take_get (mg_get hk hb)
    have hlen : (((mg c d).take i).map fun x => [x]).length < 10000000 := by rw [List.length_map, List.length_take]; omega
    rw [lpT2_eq, ht]
    simp (config := {maxSteps := 4000000}) only [q_is_bb, q_nn_bb, q_eq_ns, q_eq_sn, q_eq_nn, q_ne_ns, q_ne_sn, q_ne_nn, q_in_t, q_in_l, q_nin_l, inL_strs, vB_some_, vNB_some_, ↓Xx_lc, ↓Xt_lc, ↓kLc_eq, ↓kLcR_eq, ↓kLe_d, ↓kLqb_eq, ↓kLq_eq, ↓lc_1, ↓lc_10, ↓lc_2, ↓lc_20, wipe_0, wipe_s, ↓kR2_eq, ↓kR2b_eq, ↓kR2c_eq, ↓kR2d_eq, ↓Xi_rng2, ↓kN_nx, ↓kN_rt, ↓kN_bk, ↓kN_ct, ↓Xy_skip, ↓Xy_seq, ↓kD_eq, ↓Xx_cst, ↓Xx_gc, ↓kV_eq, ↓Xx_var, ↓kM_eq, ↓Xx_mov, ↓kP_eq, ↓Xx_pk, ↓k1b_eq, ↓k1_eq, ↓Xx_p1, ↓k2d_eq, ↓k2c_eq, ↓k2b_eq, ↓k2_eq, ↓Xx_p2, ↓kIb_eq, ↓kI_eq, ↓Xx_isi, ↓kSd_eq, ↓kSc_eq, ↓kSb_eq, ↓kS_eq, ↓Xx_slc, ↓Xx_noE, ↓kOb_eq, ↓kO_eq, ↓Xx_so, ↓kTb_eq, ↓kT_eq, ↓Xx_tup, ↓kLb_eq, ↓kL_eq, ↓Xx_lst, ↓kCb_eq, ↓kC_eq, ↓Xx_call, ↓Xx_nil, ↓kAb_eq, ↓kA_eq, ↓Xx_cons, ↓Xx_one, ↓kAnb_eq, ↓kAn_eq, ↓Xx_and, ↓kOrb_eq, ↓kOr_eq, ↓Xx_or, ↓kNob_eq, ↓kNo_eq, ↓Xx_not, ↓kIfb_eq, ↓kIf_eq, ↓Xx_if, ↓kTrb_eq, ↓kTr_eq, ↓Xt_cst, ↓Xt_var, ↓Xt_pk, ↓Xt_p1, ↓Xt_p2, ↓Xt_isi, ↓Xt_call, ↓Xt_slc, ↓kE_eq, ↓kIv_d, ↓Xi_val, ↓kRb_eq, ↓kR_eq, ↓Xi_rng1, ↓kEnb_eq, ↓kEn_d, ↓Xi_enu, ↓kAs_d, ↓Xy_asg, ↓kApc_eq, ↓kApb_d, ↓kAp_eq, ↓Xy_app, ↓kX_eq, ↓Xy_ex, ↓kRt_d, ↓Xy_ret, ↓Xy_retN, ↓kItb_eq, ↓kIt_eq, ↓Xy_ite, ↓kF_eq, ↓Xy_for1, ↓kFT_eq, ↓Xy_forT, sl_zero, sl_succ, sd_some, sp_some, sp_if, sp_ifn, sb_some, sf_some, si_some, si_if, sint_some, so_some, res_d, res_pk, tv_t_d, tv_f, resL_nil, resL_cons, fz_d, fz_p, q_neg, q_len_s, q_len_l, q_len_t, q_int, q_int_b, q_add, q_add_s, q_sub, q_mul, q_fdiv, q_mod, q_pow, q_lt, q_le, q_gt, q_ge, q_eq_i, q_eq_s, q_eq_b, q_ne_i, q_ne_s, q_ne_b, q_in_s, q_nin_s, q_is_n, q_is_i, q_is_s, q_is_l, q_is_t, q_nn_n, q_nn_i, q_nn_s, q_nn_l, q_nn_t, q_idx_l, q_idx_t, q_idx_s, q_sl_l, q_sl_s, shr_i, shr_b, shr_s, shr_n, shr_l, own_l, own_t, own_i, own_s, own_b, own_n, ownL_nil, ownL_cons, frz_l0, frz_l1, frz_t, frz_i, frz_s, frz_b, frz_n, frzL_nil, frzL_cons, at_0, at_1, at_2, disp_eq, it_l0, it_t, it_s, eno_s, eno_l, ty_ii, ty_ib, ty_is, ty_ss, ty_si, ty_bb, ty_bi, ty_ll, ty_tt, tr_b, tr_i, tr_l, dat_v, dat_l, dat_t, Option.bind_some, Option.map_some, Bool.or_false, Bool.false_or, Bool.true_and, List.set_cons_zero, List.set_cons_succ, if_true, if_false, Bool.false_eq_true, Bool.not_true, Bool.not_false, ↓reduceIte, List.map_cons, List.map_nil, List.cons_append, List.nil_append, List.replicate_succ, List.replicate_zero, List.length_cons, List.length_nil, Nat.reduceSub, Nat.reduceAdd, true_and, reduceCtorEq, false_and, false_or, or_false, exists_false, Nat.reduceLeDiff, Int.reduceLT, Int.reduceLE, Int.reduceNeg, decide_true, and_self, and_true, Int.toNat_natCast, at_nat hb, at_nat hk]
    refine ite2 (fun h => ⟨?_, some (.int i), some (.str [a]), ?_⟩) (fun h => ite2 (fun h2 => ⟨?_, some (.int i), some (.str [a]), ?_⟩) (fun h2 => ite2 (fun h3 => ⟨?_, some (.int i), some (.str [a]), ?_⟩) (fun h3 => ⟨?_, some (.int i), some (.str [a]), ?_⟩)))
    · exact line_lt (by rw [List.length_map]; exact hlen)
    · have h : a = 45 := by simpa using h
      simp [h]
    · exact line_lt (by rw [List.length_map]; exact hlen)
    · have h : ¬ a = 45 := by simpa using h
      have h2 : b = 45 := by simpa using h2
      simp [h, h2]
    · exact line_lt (by rw [List.length_map]; exact hlen)
    · have h : ¬ a = 45 := by simpa using h
      have h3 : b = a := by simpa using h3
      simp [h, h3]
    · exact line_lt (by rw [List.length_map]; exact hlen)
    · have h : ¬ a = 45 := by simpa using h
      have h2 : ¬ b = 45 := by simpa using h2
      have h3 : ¬ b = a := by simpa using h3
      simp [h, h2, h3]
  · rintro e ⟨o3, o4, rfl⟩
    have e1 : (mg c d).take ((c.map fun c => D.str [c]).mapIdx fun k x => D.tup [.int k, x]).length = mg c d := by
      rw [List.length_mapIdx, List.length_map, ← mg_len hl, List.take_length]
    rw [e1]
    simp (config := {maxSteps := 4000000}) only [q_is_bb, q_nn_bb, q_eq_ns, q_eq_sn, q_eq_nn, q_ne_ns, q_ne_sn, q_ne_nn, q_in_t, q_in_l, q_nin_l, inL_strs, vB_some_, vNB_some_, ↓Xx_lc, ↓Xt_lc, ↓kLc_eq, ↓kLcR_eq, ↓kLe_d, ↓kLqb_eq, ↓kLq_eq, ↓lc_1, ↓lc_10, ↓lc_2, ↓lc_20, wipe_0, wipe_s, ↓kR2_eq, ↓kR2b_eq, ↓kR2c_eq, ↓kR2d_eq, ↓Xi_rng2, ↓kN_nx, ↓kN_rt, ↓kN_bk, ↓kN_ct, ↓Xy_skip, ↓Xy_seq, ↓kD_eq, ↓Xx_cst, ↓Xx_gc, ↓kV_eq, ↓Xx_var, ↓kM_eq, ↓Xx_mov, ↓kP_eq, ↓Xx_pk, ↓k1b_eq, ↓k1_eq, ↓Xx_p1, ↓k2d_eq, ↓k2c_eq, ↓k2b_eq, ↓k2_eq, ↓Xx_p2, ↓kIb_eq, ↓kI_eq, ↓Xx_isi, ↓kSd_eq, ↓kSc_eq, ↓kSb_eq, ↓kS_eq, ↓Xx_slc, ↓Xx_noE, ↓kOb_eq, ↓kO_eq, ↓Xx_so, ↓kTb_eq, ↓kT_eq, ↓Xx_tup, ↓kLb_eq, ↓kL_eq, ↓Xx_lst, ↓kCb_eq, ↓kC_eq, ↓Xx_call, ↓Xx_nil, ↓kAb_eq, ↓kA_eq, ↓Xx_cons, ↓Xx_one, ↓kAnb_eq, ↓kAn_eq, ↓Xx_and, ↓kOrb_eq, ↓kOr_eq, ↓Xx_or, ↓kNob_eq, ↓kNo_eq, ↓Xx_not, ↓kIfb_eq, ↓kIf_eq, ↓Xx_if, ↓kTrb_eq, ↓kTr_eq, ↓Xt_cst, ↓Xt_var, ↓Xt_pk, ↓Xt_p1, ↓Xt_p2, ↓Xt_isi, ↓Xt_call, ↓Xt_slc, ↓kE_eq, ↓kIv_d, ↓Xi_val, ↓kRb_eq, ↓kR_eq, ↓Xi_rng1, ↓kEnb_eq, ↓kEn_d, ↓Xi_enu, ↓kAs_d, ↓Xy_asg, ↓kApc_eq, ↓kApb_d, ↓kAp_eq, ↓Xy_app, ↓kX_eq, ↓Xy_ex, ↓kRt_d, ↓Xy_ret, ↓Xy_retN, ↓kItb_eq, ↓kIt_eq, ↓Xy_ite, ↓kF_eq, ↓Xy_for1, ↓kFT_eq, ↓Xy_forT, sl_zero, sl_succ, sd_some, sp_some, sp_if, sp_ifn, sb_some, sf_some, si_some, si_if, sint_some, so_some, res_d, res_pk, tv_t_d, tv_f, resL_nil, resL_cons, fz_d, fz_p, q_neg, q_len_s, q_len_l, q_len_t, q_int, q_int_b, q_add, q_add_s, q_sub, q_mul, q_fdiv, q_mod, q_pow, q_lt, q_le, q_gt, q_ge, q_eq_i, q_eq_s, q_eq_b, q_ne_i, q_ne_s, q_ne_b, q_in_s, q_nin_s, q_is_n, q_is_i, q_is_s, q_is_l, q_is_t, q_nn_n, q_nn_i, q_nn_s, q_nn_l, q_nn_t, q_idx_l, q_idx_t, q_idx_s, q_sl_l, q_sl_s, shr_i, shr_b, shr_s, shr_n, shr_l, own_l, own_t, own_i, own_s, own_b, own_n, ownL_nil, ownL_cons, frz_l0, frz_l1, frz_t, frz_i, frz_s, frz_b, frz_n, frzL_nil, frzL_cons, at_0, at_1, at_2, disp_eq, it_l0, it_t, it_s, eno_s, eno_l, ty_ii, ty_ib, ty_is, ty_ss, ty_si, ty_bb, ty_bi, ty_ll, ty_tt, tr_b, tr_i, tr_l, dat_v, dat_l, dat_t, Option.bind_some, Option.map_some, Bool.or_false, Bool.false_or, Bool.true_and, List.set_cons_zero, List.set_cons_succ, if_true, if_false, Bool.false_eq_true, Bool.not_true, Bool.not_false, ↓reduceIte, List.map_cons, List.map_nil, List.cons_append, List.nil_append, List.replicate_succ, List.replicate_zero, List.length_cons, List.length_nil, Nat.reduceSub, Nat.reduceAdd, true_and, reduceCtorEq, false_and, false_or, or_false, exists_false, Nat.reduceLeDiff, Int.reduceLT, Int.reduceLE, Int.reduceNeg, decide_true, and_self, and_true, Int.toNat_natCast, q_join (l := (mg c d).map fun x => [x]) (by rw [List.length_map, mg_len hl]; omega) (by intro x hx; obtain ⟨y, _, rfl⟩ := List.mem_map.mp hx; simp), flat_one]
end Lw
namespace Lw
theorem mg_one {a b x : Nat} (ha : a = 48 ∨ a = 49 ∨ a = 45) (hb : b = 48 ∨ b = 49 ∨ b = 45) (hx : x = 48 ∨ x = 49) (ho : opc a b = false) : ((if a = 45 then b else if b = 45 ∨ b = a then a else 45) = 45 ∨ (if a = 45 then b else if b = 45 ∨ b = a then a else 45) = x) ↔ (a = 45 ∨ a = x) ∧ (b = 45 ∨ b = x) := by
  rcases ha with rfl | rfl | rfl <;> rcases hb with rfl | rfl | rfl <;> rcases hx with rfl | rfl <;> first | decide | (exact absurd ho (by decide))
theorem ins_mg {c d p : List Nat} (hl : c.length = d.length) (hp : p.length = c.length) (hc : IsC c) (hd : IsC d) (hx : ∀ x ∈ p, x = 48 ∨ x = 49) (q : ops c d = []) : ins (mg c d) p = (ins c p && ins d p) := by
  have key : ∀ (j a b x : Nat), c[j]? = some a → d[j]? = some b → p[j]? = some x → (((if a = 45 then b else if b = 45 ∨ b = a then a else 45) = 45 ∨ (if a = 45 then b else if b = 45 ∨ b = a then a else 45) = x) ↔ (a = 45 ∨ a = x) ∧ (b = 45 ∨ b = x)) := fun j a b x ha hb hp =>
    mg_one (hc a (List.mem_of_getElem? ha)) (hd b (List.mem_of_getElem? hb)) (hx x (List.mem_of_getElem? hp)) (ops_none q ha hb)
  have all : ∀ {j : Nat}, j < c.length → ∃ a b x, c[j]? = some a ∧ d[j]? = some b ∧ p[j]? = some x := fun {j} hj => by
    obtain ⟨a, ha⟩ := get_ex (s := c) (k := j) hj
    obtain ⟨b, hb⟩ := get_ex (s := d) (k := j) (by omega)
    obtain ⟨x, hx⟩ := get_ex (s := p) (k := j) (by omega)
    exact ⟨a, b, x, ha, hb, hx⟩
  have hml := mg_len hl
  rw [Bool.eq_iff_iff, Bool.and_eq_true, ins_iff (by omega), ins_iff (by omega), ins_iff (by omega)]
  constructor
  · intro h
    refine ⟨fun j a x ha hx' => ?_, fun j b x hb hx' => ?_⟩
    · obtain ⟨a', b, x', h1, h2, h3⟩ := all (List.getElem?_eq_some_iff.mp ha).1
      rw [h1] at ha; rw [h3] at hx'; cases ha; cases hx'
      exact ((key j a b x h1 h2 h3).mp (h j _ _ (mg_get h1 h2) h3)).1
    · obtain ⟨a, b', x', h1, h2, h3⟩ := all (j := j) (by have := (List.getElem?_eq_some_iff.mp hb).1; omega)
      rw [h2] at hb; rw [h3] at hx'; cases hb; cases hx'
      exact ((key j a b x h1 h2 h3).mp (h j _ _ (mg_get h1 h2) h3)).2
  · rintro ⟨h1, h2⟩ j y x hy hx'
    obtain ⟨a, b, x', k1, k2, k3⟩ := all (j := j) (by have := (List.getElem?_eq_some_iff.mp hy).1; omega)
    rw [k3] at hx'; cases hx'
    rw [mg_get k1 k2] at hy
    cases hy
    exact (key j a b x k1 k2 k3).mpr ⟨h1 j a x k1 k3, h2 j b x k2 k3⟩
theorem apart {c d p : List Nat} (hl : c.length = d.length) (hp : p.length = c.length) (q : ops c d ≠ []) : (ins c p && ins d p) = false := by
  obtain ⟨k, a, b, ha, hb, ho⟩ := ops_some hl q
  cases h1 : ins c p with
  | false => rfl
  | true =>
    cases h2 : ins d p with
    | false => rfl
    | true =>
      exfalso
      have hk : k < c.length := (List.getElem?_eq_some_iff.mp ha).1
      obtain ⟨x, hx⟩ := get_ex (s := p) (k := k) (by omega)
      have e1 := (ins_iff (by omega)).mp h1 k a x ha hx
      have e2 := (ins_iff (by omega)).mp h2 k b x hb hx
      unfold opc at ho
      simp at ho
      omega
def strg (p : List Nat → Bool) : D → Option D
  | .str s => if p s then some (.str s) else none
  | _ => none
theorem strg_s {p : List Nat → Bool} {s : List Nat} : strg p (.str s) = if p s then some (.str s) else none := rfl
theorem fm_strs {p : List Nat → Bool} : ∀ (l : List (List Nat)), (l.map D.str).filterMap (strg p) = (l.filter p).map D.str
  | [] => rfl
  | a :: l => by
    rw [List.map_cons, List.filterMap_cons, List.filter_cons, fm_strs l, strg_s]
    cases p a <;> simp
theorem cp_strs {m : Nat} {s : List Nat} (h : s ∈ strsOf m [48, 49]) : Cp s := by
  intro c hc
  have := strs_in h c hc
  simp at this
  omega
theorem pt_strs {m : Nat} {s : List Nat} (h : s ∈ strsOf m [48, 49]) : ∀ x ∈ s, x = 48 ∨ x = 49 := by
  intro c hc
  have := strs_in h c hc
  simpa using this
end Lw
namespace Lw
theorem mg_comm : ∀ (c d : List Nat), mg c d = mg d c
  | [], [] => rfl
  | [], _ :: _ => rfl
  | _ :: _, [] => rfl
  | a :: c, b :: d => by
    rw [mg, mg, mg_comm c d]
    congr 1
    by_cases h1 : a = 45
    · subst h1
      by_cases h2 : b = 45
      · rw [h2]
      · rw [if_pos rfl, if_neg h2, if_pos (.inl rfl)]
    · by_cases h2 : b = 45
      · rw [if_neg h1, if_pos (.inl h2), if_pos h2]
      · by_cases h3 : b = a
        · rw [h3]
        · rw [if_neg h1, if_neg (by omega), if_neg h2, if_neg (by omega)]
theorem r_consensus (n : Nat) (c d : List Nat) (h1 : 1 ≤ c.length) (h : c.length ≤ 4) (hc : IsC c) (hd : IsC d) (hl : c.length = d.length) : OI.run gcs tab (n + 5) 7 [.str c, .str d] = some (.ok (if (ops c d).length = 1 then .str (mg c d) else .non)) := by
  refine run_rt (d := d7) rfl rfl ?_
  simp (config := {maxSteps := 4000000}) only [q_is_bb, q_nn_bb, q_eq_ns, q_eq_sn, q_eq_nn, q_ne_ns, q_ne_sn, q_ne_nn, q_in_t, q_in_l, q_nin_l, inL_strs, vB_some_, vNB_some_, ↓Xx_lc, ↓Xt_lc, ↓kLc_eq, ↓kLcR_eq, ↓kLe_d, ↓kLqb_eq, ↓kLq_eq, ↓lc_1, ↓lc_10, ↓lc_2, ↓lc_20, wipe_0, wipe_s, ↓kR2_eq, ↓kR2b_eq, ↓kR2c_eq, ↓kR2d_eq, ↓Xi_rng2, ↓kN_nx, ↓kN_rt, ↓kN_bk, ↓kN_ct, ↓Xy_skip, ↓Xy_seq, ↓kD_eq, ↓Xx_cst, ↓Xx_gc, ↓kV_eq, ↓Xx_var, ↓kM_eq, ↓Xx_mov, ↓kP_eq, ↓Xx_pk, ↓k1b_eq, ↓k1_eq, ↓Xx_p1, ↓k2d_eq, ↓k2c_eq, ↓k2b_eq, ↓k2_eq, ↓Xx_p2, ↓kIb_eq, ↓kI_eq, ↓Xx_isi, ↓kSd_eq, ↓kSc_eq, ↓kSb_eq, ↓kS_eq, ↓Xx_slc, ↓Xx_noE, ↓kOb_eq, ↓kO_eq, ↓Xx_so, ↓kTb_eq, ↓kT_eq, ↓Xx_tup, ↓kLb_eq, ↓kL_eq, ↓Xx_lst, ↓kCb_eq, ↓kC_eq, ↓Xx_call, ↓Xx_nil, ↓kAb_eq, ↓kA_eq, ↓Xx_cons, ↓Xx_one, ↓kAnb_eq, ↓kAn_eq, ↓Xx_and, ↓kOrb_eq, ↓kOr_eq, ↓Xx_or, ↓kNob_eq, ↓kNo_eq, ↓Xx_not, ↓kIfb_eq, ↓kIf_eq, ↓Xx_if, ↓kTrb_eq, ↓kTr_eq, ↓Xt_cst, ↓Xt_var, ↓Xt_pk, ↓Xt_p1, ↓Xt_p2, ↓Xt_isi, ↓Xt_call, ↓Xt_slc, ↓kE_eq, ↓kIv_d, ↓Xi_val, ↓kRb_eq, ↓kR_eq, ↓Xi_rng1, ↓kEnb_eq, ↓kEn_d, ↓Xi_enu, ↓kAs_d, ↓Xy_asg, ↓kApc_eq, ↓kApb_d, ↓kAp_eq, ↓Xy_app, ↓kX_eq, ↓Xy_ex, ↓kRt_d, ↓Xy_ret, ↓Xy_retN, ↓kItb_eq, ↓kIt_eq, ↓Xy_ite, ↓kF_eq, ↓Xy_for1, ↓kFT_eq, ↓Xy_forT, sl_zero, sl_succ, sd_some, sp_some, sp_if, sp_ifn, sb_some, sf_some, si_some, si_if, sint_some, so_some, res_d, res_pk, tv_t_d, tv_f, resL_nil, resL_cons, fz_d, fz_p, q_neg, q_len_s, q_len_l, q_len_t, q_int, q_int_b, q_add, q_add_s, q_sub, q_mul, q_fdiv, q_mod, q_pow, q_lt, q_le, q_gt, q_ge, q_eq_i, q_eq_s, q_eq_b, q_ne_i, q_ne_s, q_ne_b, q_in_s, q_nin_s, q_is_n, q_is_i, q_is_s, q_is_l, q_is_t, q_nn_n, q_nn_i, q_nn_s, q_nn_l, q_nn_t, q_idx_l, q_idx_t, q_idx_s, q_sl_l, q_sl_s, shr_i, shr_b, shr_s, shr_n, shr_l, own_l, own_t, own_i, own_s, own_b, own_n, ownL_nil, ownL_cons, frz_l0, frz_l1, frz_t, frz_i, frz_s, frz_b, frz_n, frzL_nil, frzL_cons, at_0, at_1, at_2, disp_eq, it_l0, it_t, it_s, eno_s, eno_l, ty_ii, ty_ib, ty_is, ty_ss, ty_si, ty_bb, ty_bi, ty_ll, ty_tt, tr_b, tr_i, tr_l, dat_v, dat_l, dat_t, Option.bind_some, Option.map_some, Bool.or_false, Bool.false_or, Bool.true_and, List.set_cons_zero, List.set_cons_succ, if_true, if_false, Bool.false_eq_true, Bool.not_true, Bool.not_false, ↓reduceIte, List.map_cons, List.map_nil, List.cons_append, List.nil_append, List.replicate_succ, List.replicate_zero, List.length_cons, List.length_nil, Nat.reduceSub, Nat.reduceAdd, true_and, reduceCtorEq, false_and, false_or, or_false, exists_false, Nat.reduceLeDiff, Int.reduceLT, Int.reduceLE, Int.reduceNeg, decide_true, and_self, and_true, Int.toNat_natCast, d7, c7, r_check_pair n c d h1 h hc hd hl.symm, r_opposed (n + 3) c d hl (by omega), r_merged (n + 3) c d hl (by omega), List.length_map]
  refine ite2 (fun q => ?_) (fun q => ?_)
  · have q : ¬ (ops c d).length = 1 := by intro z; rw [z] at q; simp at q
    rw [if_neg q]
  · have q : (ops c d).length = 1 := by
      have : (((ops c d).length : Nat) : Int) = 1 := by simpa using q
      omega
    rw [if_pos q]
/-- every point of q lies in c or in d -/
def inb (c d q : List Nat) : Bool := (strsOf c.length [48, 49]).all fun p => !(ins q p) || ins c p || ins d p
theorem r_inboth (n : Nat) (c d q : List Nat) (hl : c.length = d.length) (hq : q.length = c.length) (hs : c.length ≤ 4) : OI.run gcs tab (n + 2) 14 [.str c, .str d, .str q] = some (.ok (.bl (inb c d q))) := by
  obtain ⟨v, hv, o, rfl⟩ := r_strings n c.length [48, 49] hs (by decide)
  refine run_rt (d := d14) rfl rfl ?_
  cases o <;> simp (config := {maxSteps := 4000000}) only [q_is_bb, q_nn_bb, q_eq_ns, q_eq_sn, q_eq_nn, q_ne_ns, q_ne_sn, q_ne_nn, q_in_t, q_in_l, q_nin_l, inL_strs, vB_some_, vNB_some_, ↓Xx_lc, ↓Xt_lc, ↓kLc_eq, ↓kLcR_eq, ↓kLe_d, ↓kLqb_eq, ↓kLq_eq, ↓lc_1, ↓lc_10, ↓lc_2, ↓lc_20, wipe_0, wipe_s, ↓kR2_eq, ↓kR2b_eq, ↓kR2c_eq, ↓kR2d_eq, ↓Xi_rng2, ↓kN_nx, ↓kN_rt, ↓kN_bk, ↓kN_ct, ↓Xy_skip, ↓Xy_seq, ↓kD_eq, ↓Xx_cst, ↓Xx_gc, ↓kV_eq, ↓Xx_var, ↓kM_eq, ↓Xx_mov, ↓kP_eq, ↓Xx_pk, ↓k1b_eq, ↓k1_eq, ↓Xx_p1, ↓k2d_eq, ↓k2c_eq, ↓k2b_eq, ↓k2_eq, ↓Xx_p2, ↓kIb_eq, ↓kI_eq, ↓Xx_isi, ↓kSd_eq, ↓kSc_eq, ↓kSb_eq, ↓kS_eq, ↓Xx_slc, ↓Xx_noE, ↓kOb_eq, ↓kO_eq, ↓Xx_so, ↓kTb_eq, ↓kT_eq, ↓Xx_tup, ↓kLb_eq, ↓kL_eq, ↓Xx_lst, ↓kCb_eq, ↓kC_eq, ↓Xx_call, ↓Xx_nil, ↓kAb_eq, ↓kA_eq, ↓Xx_cons, ↓Xx_one, ↓kAnb_eq, ↓kAn_eq, ↓Xx_and, ↓kOrb_eq, ↓kOr_eq, ↓Xx_or, ↓kNob_eq, ↓kNo_eq, ↓Xx_not, ↓kIfb_eq, ↓kIf_eq, ↓Xx_if, ↓kTrb_eq, ↓kTr_eq, ↓Xt_cst, ↓Xt_var, ↓Xt_pk, ↓Xt_p1, ↓Xt_p2, ↓Xt_isi, ↓Xt_call, ↓Xt_slc, ↓kE_eq, ↓kIv_d, ↓Xi_val, ↓kRb_eq, ↓kR_eq, ↓Xi_rng1, ↓kEnb_eq, ↓kEn_d, ↓Xi_enu, ↓kAs_d, ↓Xy_asg, ↓kApc_eq, ↓kApb_d, ↓kAp_eq, ↓Xy_app, ↓kX_eq, ↓Xy_ex, ↓kRt_d, ↓Xy_ret, ↓Xy_retN, ↓kItb_eq, ↓kIt_eq, ↓Xy_ite, ↓kF_eq, ↓Xy_for1, ↓kFT_eq, ↓Xy_forT, sl_zero, sl_succ, sd_some, sp_some, sp_if, sp_ifn, sb_some, sf_some, si_some, si_if, sint_some, so_some, res_d, res_pk, tv_t_d, tv_f, resL_nil, resL_cons, fz_d, fz_p, q_neg, q_len_s, q_len_l, q_len_t, q_int, q_int_b, q_add, q_add_s, q_sub, q_mul, q_fdiv, q_mod, q_pow, q_lt, q_le, q_gt, q_ge, q_eq_i, q_eq_s, q_eq_b, q_ne_i, q_ne_s, q_ne_b, q_in_s, q_nin_s, q_is_n, q_is_i, q_is_s, q_is_l, q_is_t, q_nn_n, q_nn_i, q_nn_s, q_nn_l, q_nn_t, q_idx_l, q_idx_t, q_idx_s, q_sl_l, q_sl_s, shr_i, shr_b, shr_s, shr_n, shr_l, own_l, own_t, own_i, own_s, own_b, own_n, ownL_nil, ownL_cons, frz_l0, frz_l1, frz_t, frz_i, frz_s, frz_b, frz_n, frzL_nil, frzL_cons, at_0, at_1, at_2, disp_eq, it_l0, it_t, it_s, eno_s, eno_l, ty_ii, ty_ib, ty_is, ty_ss, ty_si, ty_bb, ty_bi, ty_ll, ty_tt, tr_b, tr_i, tr_l, dat_v, dat_l, dat_t, Option.bind_some, Option.map_some, Bool.or_false, Bool.false_or, Bool.true_and, List.set_cons_zero, List.set_cons_succ, if_true, if_false, Bool.false_eq_true, Bool.not_true, Bool.not_false, ↓reduceIte, List.map_cons, List.map_nil, List.cons_append, List.nil_append, List.replicate_succ, List.replicate_zero, List.length_cons, List.length_nil, Nat.reduceSub, Nat.reduceAdd, true_and, reduceCtorEq, false_and, false_or, or_false, exists_false, Nat.reduceLeDiff, Int.reduceLT, Int.reduceLE, Int.reduceNeg, decide_true, and_self, and_true, Int.toNat_natCast, d14, c14, hv, own_strs, frz_strs]
  all_goals
    refine for_ret (fun i e => ∃ o2, e = [some (.str c), some (.str d), some (.str q), o2] ∧ ∀ (j : Nat), j < i → ∀ p, (strsOf c.length [48, 49])[j]? = some p → (!(ins q p) || ins c p || ins d p) = true) (fun r => r = .bl (inb c d q)) ⟨none, rfl, fun j hj => by omega⟩ ?_ ?_ ?_
    · rintro i x e hx ⟨o2, rfl, hi⟩
      obtain ⟨p, hp, rfl⟩ := map_get hx
      have hpl := strs_len (List.mem_of_getElem? hp)
      have go : (!(ins q p) || ins c p || ins d p) = true → ∀ (j : Nat), j < i + 1 → ∀ p, (strsOf c.length [48, 49])[j]? = some p → (!(ins q p) || ins c p || ins d p) = true := fun h j hj p' hp' => by
        by_cases e : j = i
        · subst e; rw [hp] at hp'; cases hp'; exact h
        · exact hi j (by omega) p' hp'
      rw [lp1_eq]
      simp (config := {maxSteps := 4000000}) only [q_is_bb, q_nn_bb, q_eq_ns, q_eq_sn, q_eq_nn, q_ne_ns, q_ne_sn, q_ne_nn, q_in_t, q_in_l, q_nin_l, inL_strs, vB_some_, vNB_some_, ↓Xx_lc, ↓Xt_lc, ↓kLc_eq, ↓kLcR_eq, ↓kLe_d, ↓kLqb_eq, ↓kLq_eq, ↓lc_1, ↓lc_10, ↓lc_2, ↓lc_20, wipe_0, wipe_s, ↓kR2_eq, ↓kR2b_eq, ↓kR2c_eq, ↓kR2d_eq, ↓Xi_rng2, ↓kN_nx, ↓kN_rt, ↓kN_bk, ↓kN_ct, ↓Xy_skip, ↓Xy_seq, ↓kD_eq, ↓Xx_cst, ↓Xx_gc, ↓kV_eq, ↓Xx_var, ↓kM_eq, ↓Xx_mov, ↓kP_eq, ↓Xx_pk, ↓k1b_eq, ↓k1_eq, ↓Xx_p1, ↓k2d_eq, ↓k2c_eq, ↓k2b_eq, ↓k2_eq, ↓Xx_p2, ↓kIb_eq, ↓kI_eq, ↓Xx_isi, ↓kSd_eq, ↓kSc_eq, ↓kSb_eq, ↓kS_eq, ↓Xx_slc, ↓Xx_noE, ↓kOb_eq, ↓kO_eq, ↓Xx_so, ↓kTb_eq, ↓kT_eq, ↓Xx_tup, ↓kLb_eq, ↓kL_eq, ↓Xx_lst, ↓kCb_eq, ↓kC_eq, ↓Xx_call, ↓Xx_nil, ↓kAb_eq, ↓kA_eq, ↓Xx_cons, ↓Xx_one, ↓kAnb_eq, ↓kAn_eq, ↓Xx_and, ↓kOrb_eq, ↓kOr_eq, ↓Xx_or, ↓kNob_eq, ↓kNo_eq, ↓Xx_not, ↓kIfb_eq, ↓kIf_eq, ↓Xx_if, ↓kTrb_eq, ↓kTr_eq, ↓Xt_cst, ↓Xt_var, ↓Xt_pk, ↓Xt_p1, ↓Xt_p2, ↓Xt_isi, ↓Xt_call, ↓Xt_slc, ↓kE_eq, ↓kIv_d, ↓Xi_val, ↓kRb_eq, ↓kR_eq, ↓Xi_rng1, ↓kEnb_eq, ↓kEn_d, ↓Xi_enu, ↓kAs_d, ↓Xy_asg, ↓kApc_eq, ↓kApb_d, ↓kAp_eq, ↓Xy_app, ↓kX_eq, ↓Xy_ex, ↓kRt_d, ↓Xy_ret, ↓Xy_retN, ↓kItb_eq, ↓kIt_eq, ↓Xy_ite, ↓kF_eq, ↓Xy_for1, ↓kFT_eq, ↓Xy_forT, sl_zero, sl_succ, sd_some, sp_some, sp_if, sp_ifn, sb_some, sf_some, si_some, si_if, sint_some, so_some, res_d, res_pk, tv_t_d, tv_f, resL_nil, resL_cons, fz_d, fz_p, q_neg, q_len_s, q_len_l, q_len_t, q_int, q_int_b, q_add, q_add_s, q_sub, q_mul, q_fdiv, q_mod, q_pow, q_lt, q_le, q_gt, q_ge, q_eq_i, q_eq_s, q_eq_b, q_ne_i, q_ne_s, q_ne_b, q_in_s, q_nin_s, q_is_n, q_is_i, q_is_s, q_is_l, q_is_t, q_nn_n, q_nn_i, q_nn_s, q_nn_l, q_nn_t, q_idx_l, q_idx_t, q_idx_s, q_sl_l, q_sl_s, shr_i, shr_b, shr_s, shr_n, shr_l, own_l, own_t, own_i, own_s, own_b, own_n, ownL_nil, ownL_cons, frz_l0, frz_l1, frz_t, frz_i, frz_s, frz_b, frz_n, frzL_nil, frzL_cons, at_0, at_1, at_2, disp_eq, it_l0, it_t, it_s, eno_s, eno_l, ty_ii, ty_ib, ty_is, ty_ss, ty_si, ty_bb, ty_bi, ty_ll, ty_tt, tr_b, tr_i, tr_l, dat_v, dat_l, dat_t, Option.bind_some, Option.map_some, Bool.or_false, Bool.false_or, Bool.true_and, List.set_cons_zero, List.set_cons_succ, if_true, if_false, Bool.false_eq_true, Bool.not_true, Bool.not_false, ↓reduceIte, List.map_cons, List.map_nil, List.cons_append, List.nil_append, List.replicate_succ, List.replicate_zero, List.length_cons, List.length_nil, Nat.reduceSub, Nat.reduceAdd, true_and, reduceCtorEq, false_and, false_or, or_false, exists_false, Nat.reduceLeDiff, Int.reduceLT, Int.reduceLE, Int.reduceNeg, decide_true, and_self, and_true, Int.toNat_natCast, r_in n q p (by omega) (by omega), r_in n c p (by omega) (by omega), r_in n d p (by omega) (by omega)]
      cases k1 : ins q p with
      | false => simp (config := {maxSteps := 4000000}) only [q_is_bb, q_nn_bb, q_eq_ns, q_eq_sn, q_eq_nn, q_ne_ns, q_ne_sn, q_ne_nn, q_in_t, q_in_l, q_nin_l, inL_strs, vB_some_, vNB_some_, ↓Xx_lc, ↓Xt_lc, ↓kLc_eq, ↓kLcR_eq, ↓kLe_d, ↓kLqb_eq, ↓kLq_eq, ↓lc_1, ↓lc_10, ↓lc_2, ↓lc_20, wipe_0, wipe_s, ↓kR2_eq, ↓kR2b_eq, ↓kR2c_eq, ↓kR2d_eq, ↓Xi_rng2, ↓kN_nx, ↓kN_rt, ↓kN_bk, ↓kN_ct, ↓Xy_skip, ↓Xy_seq, ↓kD_eq, ↓Xx_cst, ↓Xx_gc, ↓kV_eq, ↓Xx_var, ↓kM_eq, ↓Xx_mov, ↓kP_eq, ↓Xx_pk, ↓k1b_eq, ↓k1_eq, ↓Xx_p1, ↓k2d_eq, ↓k2c_eq, ↓k2b_eq, ↓k2_eq, ↓Xx_p2, ↓kIb_eq, ↓kI_eq, ↓Xx_isi, ↓kSd_eq, ↓kSc_eq, ↓kSb_eq, ↓kS_eq, ↓Xx_slc, ↓Xx_noE, ↓kOb_eq, ↓kO_eq, ↓Xx_so, ↓kTb_eq, ↓kT_eq, ↓Xx_tup, ↓kLb_eq, ↓kL_eq, ↓Xx_lst, ↓kCb_eq, ↓kC_eq, ↓Xx_call, ↓Xx_nil, ↓kAb_eq, ↓kA_eq, ↓Xx_cons, ↓Xx_one, ↓kAnb_eq, ↓kAn_eq, ↓Xx_and, ↓kOrb_eq, ↓kOr_eq, ↓Xx_or, ↓kNob_eq, ↓kNo_eq, ↓Xx_not, ↓kIfb_eq, ↓kIf_eq, ↓Xx_if, ↓kTrb_eq, ↓kTr_eq, ↓Xt_cst, ↓Xt_var, ↓Xt_pk, ↓Xt_p1, ↓Xt_p2, ↓Xt_isi, ↓Xt_call, ↓Xt_slc, ↓kE_eq, ↓kIv_d, ↓Xi_val, ↓kRb_eq, ↓kR_eq, ↓Xi_rng1, ↓kEnb_eq, ↓kEn_d, ↓Xi_enu, ↓kAs_d, ↓Xy_asg, ↓kApc_eq, ↓kApb_d, ↓kAp_eq, ↓Xy_app, ↓kX_eq, ↓Xy_ex, ↓kRt_d, ↓Xy_ret, ↓Xy_retN, ↓kItb_eq, ↓kIt_eq, ↓Xy_ite, ↓kF_eq, ↓Xy_for1, ↓kFT_eq, ↓Xy_forT, sl_zero, sl_succ, sd_some, sp_some, sp_if, sp_ifn, sb_some, sf_some, si_some, si_if, sint_some, so_some, res_d, res_pk, tv_t_d, tv_f, resL_nil, resL_cons, fz_d, fz_p, q_neg, q_len_s, q_len_l, q_len_t, q_int, q_int_b, q_add, q_add_s, q_sub, q_mul, q_fdiv, q_mod, q_pow, q_lt, q_le, q_gt, q_ge, q_eq_i, q_eq_s, q_eq_b, q_ne_i, q_ne_s, q_ne_b, q_in_s, q_nin_s, q_is_n, q_is_i, q_is_s, q_is_l, q_is_t, q_nn_n, q_nn_i, q_nn_s, q_nn_l, q_nn_t, q_idx_l, q_idx_t, q_idx_s, q_sl_l, q_sl_s, shr_i, shr_b, shr_s, shr_n, shr_l, own_l, own_t, own_i, own_s, own_b, own_n, ownL_nil, ownL_cons, frz_l0, frz_l1, frz_t, frz_i, frz_s, frz_b, frz_n, frzL_nil, frzL_cons, at_0, at_1, at_2, disp_eq, it_l0, it_t, it_s, eno_s, eno_l, ty_ii, ty_ib, ty_is, ty_ss, ty_si, ty_bb, ty_bi, ty_ll, ty_tt, tr_b, tr_i, tr_l, dat_v, dat_l, dat_t, Option.bind_some, Option.map_some, Bool.or_false, Bool.false_or, Bool.true_and, List.set_cons_zero, List.set_cons_succ, if_true, if_false, Bool.false_eq_true, Bool.not_true, Bool.not_false, ↓reduceIte, List.map_cons, List.map_nil, List.cons_append, List.nil_append, List.replicate_succ, List.replicate_zero, List.length_cons, List.length_nil, Nat.reduceSub, Nat.reduceAdd, true_and, reduceCtorEq, false_and, false_or, or_false, exists_false, Nat.reduceLeDiff, Int.reduceLT, Int.reduceLE, Int.reduceNeg, decide_true, and_self, and_true, Int.toNat_natCast]; exact ⟨_, rfl, go (by rw [k1]; simp)⟩
      | true =>
        cases k2 : ins c p with
        | true => simp (config := {maxSteps := 4000000}) only [q_is_bb, q_nn_bb, q_eq_ns, q_eq_sn, q_eq_nn, q_ne_ns, q_ne_sn, q_ne_nn, q_in_t, q_in_l, q_nin_l, inL_strs, vB_some_, vNB_some_, ↓Xx_lc, ↓Xt_lc, ↓kLc_eq, ↓kLcR_eq, ↓kLe_d, ↓kLqb_eq, ↓kLq_eq, ↓lc_1, ↓lc_10, ↓lc_2, ↓lc_20, wipe_0, wipe_s, ↓kR2_eq, ↓kR2b_eq, ↓kR2c_eq, ↓kR2d_eq, ↓Xi_rng2, ↓kN_nx, ↓kN_rt, ↓kN_bk, ↓kN_ct, ↓Xy_skip, ↓Xy_seq, ↓kD_eq, ↓Xx_cst, ↓Xx_gc, ↓kV_eq, ↓Xx_var, ↓kM_eq, ↓Xx_mov, ↓kP_eq, ↓Xx_pk, ↓k1b_eq, ↓k1_eq, ↓Xx_p1, ↓k2d_eq, ↓k2c_eq, ↓k2b_eq, ↓k2_eq, ↓Xx_p2, ↓kIb_eq, ↓kI_eq, ↓Xx_isi, ↓kSd_eq, ↓kSc_eq, ↓kSb_eq, ↓kS_eq, ↓Xx_slc, ↓Xx_noE, ↓kOb_eq, ↓kO_eq, ↓Xx_so, ↓kTb_eq, ↓kT_eq, ↓Xx_tup, ↓kLb_eq, ↓kL_eq, ↓Xx_lst, ↓kCb_eq, ↓kC_eq, ↓Xx_call, ↓Xx_nil, ↓kAb_eq, ↓kA_eq, ↓Xx_cons, ↓Xx_one, ↓kAnb_eq, ↓kAn_eq, ↓Xx_and, ↓kOrb_eq, ↓kOr_eq, ↓Xx_or, ↓kNob_eq, ↓kNo_eq, ↓Xx_not, ↓kIfb_eq, ↓kIf_eq, ↓Xx_if, ↓kTrb_eq, ↓kTr_eq, ↓Xt_cst, ↓Xt_var, ↓Xt_pk, ↓Xt_p1, ↓Xt_p2, ↓Xt_isi, ↓Xt_call, ↓Xt_slc, ↓kE_eq, ↓kIv_d, ↓Xi_val, ↓kRb_eq, ↓kR_eq, ↓Xi_rng1, ↓kEnb_eq, ↓kEn_d, ↓Xi_enu, ↓kAs_d, ↓Xy_asg, ↓kApc_eq, ↓kApb_d, ↓kAp_eq, ↓Xy_app, ↓kX_eq, ↓Xy_ex, ↓kRt_d, ↓Xy_ret, ↓Xy_retN, ↓kItb_eq, ↓kIt_eq, ↓Xy_ite, ↓kF_eq, ↓Xy_for1, ↓kFT_eq, ↓Xy_forT, sl_zero, sl_succ, sd_some, sp_some, sp_if, sp_ifn, sb_some, sf_some, si_some, si_if, sint_some, so_some, res_d, res_pk, tv_t_d, tv_f, resL_nil, resL_cons, fz_d, fz_p, q_neg, q_len_s, q_len_l, q_len_t, q_int, q_int_b, q_add, q_add_s, q_sub, q_mul, q_fdiv, q_mod, q_pow, q_lt, q_le, q_gt, q_ge, q_eq_i, q_eq_s, q_eq_b, q_ne_i, q_ne_s, q_ne_b, q_in_s, q_nin_s, q_is_n, q_is_i, q_is_s, q_is_l, q_is_t, q_nn_n, q_nn_i, q_nn_s, q_nn_l, q_nn_t, q_idx_l, q_idx_t, q_idx_s, q_sl_l, q_sl_s, shr_i, shr_b, shr_s, shr_n, shr_l, own_l, own_t, own_i, own_s, own_b, own_n, ownL_nil, ownL_cons, frz_l0, frz_l1, frz_t, frz_i, frz_s, frz_b, frz_n, frzL_nil, frzL_cons, at_0, at_1, at_2, disp_eq, it_l0, it_t, it_s, eno_s, eno_l, ty_ii, ty_ib, ty_is, ty_ss, ty_si, ty_bb, ty_bi, ty_ll, ty_tt, tr_b, tr_i, tr_l, dat_v, dat_l, dat_t, Option.bind_some, Option.map_some, Bool.or_false, Bool.false_or, Bool.true_and, List.set_cons_zero, List.set_cons_succ, if_true, if_false, Bool.false_eq_true, Bool.not_true, Bool.not_false, ↓reduceIte, List.map_cons, List.map_nil, List.cons_append, List.nil_append, List.replicate_succ, List.replicate_zero, List.length_cons, List.length_nil, Nat.reduceSub, Nat.reduceAdd, true_and, reduceCtorEq, false_and, false_or, or_false, exists_false, Nat.reduceLeDiff, Int.reduceLT, Int.reduceLE, Int.reduceNeg, decide_true, and_self, and_true, Int.toNat_natCast]; exact ⟨_, rfl, go (by rw [k2]; simp)⟩
        | false =>
          cases k3 : ins d p with
          | true => simp (config := {maxSteps := 4000000}) only [q_is_bb, q_nn_bb, q_eq_ns, q_eq_sn, q_eq_nn, q_ne_ns, q_ne_sn, q_ne_nn, q_in_t, q_in_l, q_nin_l, inL_strs, vB_some_, vNB_some_, ↓Xx_lc, ↓Xt_lc, ↓kLc_eq, ↓kLcR_eq, ↓kLe_d, ↓kLqb_eq, ↓kLq_eq, ↓lc_1, ↓lc_10, ↓lc_2, ↓lc_20, wipe_0, wipe_s, ↓kR2_eq, ↓kR2b_eq, ↓kR2c_eq, ↓kR2d_eq, ↓Xi_rng2, ↓kN_nx, ↓kN_rt, ↓kN_bk, ↓kN_ct, ↓Xy_skip, ↓Xy_seq, ↓kD_eq, ↓Xx_cst, ↓Xx_gc, ↓kV_eq, ↓Xx_var, ↓kM_eq, ↓Xx_mov, ↓kP_eq, ↓Xx_pk, ↓k1b_eq, ↓k1_eq, ↓Xx_p1, ↓k2d_eq, ↓k2c_eq, ↓k2b_eq, ↓k2_eq, ↓Xx_p2, ↓kIb_eq, ↓kI_eq, ↓Xx_isi, ↓kSd_eq, ↓kSc_eq, ↓kSb_eq, ↓kS_eq, ↓Xx_slc, ↓Xx_noE, ↓kOb_eq, ↓kO_eq, ↓Xx_so, ↓kTb_eq, ↓kT_eq, ↓Xx_tup, ↓kLb_eq, ↓kL_eq, ↓Xx_lst, ↓kCb_eq, ↓kC_eq, ↓Xx_call, ↓Xx_nil, ↓kAb_eq, ↓kA_eq, ↓Xx_cons, ↓Xx_one, ↓kAnb_eq, ↓kAn_eq, ↓Xx_and, ↓kOrb_eq, ↓kOr_eq, ↓Xx_or, ↓kNob_eq, ↓kNo_eq, ↓Xx_not, ↓kIfb_eq, ↓kIf_eq, ↓Xx_if, ↓kTrb_eq, ↓kTr_eq, ↓Xt_cst, ↓Xt_var, ↓Xt_pk, ↓Xt_p1, ↓Xt_p2, ↓Xt_isi, ↓Xt_call, ↓Xt_slc, ↓kE_eq, ↓kIv_d, ↓Xi_val, ↓kRb_eq, ↓kR_eq, ↓Xi_rng1, ↓kEnb_eq, ↓kEn_d, ↓Xi_enu, ↓kAs_d, ↓Xy_asg, ↓kApc_eq, ↓kApb_d, ↓kAp_eq, ↓Xy_app, ↓kX_eq, ↓Xy_ex, ↓kRt_d, ↓Xy_ret, ↓Xy_retN, ↓kItb_eq, ↓kIt_eq, ↓Xy_ite, ↓kF_eq, ↓Xy_for1, ↓kFT_eq, ↓Xy_forT, sl_zero, sl_succ, sd_some, sp_some, sp_if, sp_ifn, sb_some, sf_some, si_some, si_if, sint_some, so_some, res_d, res_pk, tv_t_d, tv_f, resL_nil, resL_cons, fz_d, fz_p, q_neg, q_len_s, q_len_l, q_len_t, q_int, q_int_b, q_add, q_add_s, q_sub, q_mul, q_fdiv, q_mod, q_pow, q_lt, q_le, q_gt, q_ge, q_eq_i, q_eq_s, q_eq_b, q_ne_i, q_ne_s, q_ne_b, q_in_s, q_nin_s, q_is_n, q_is_i, q_is_s, q_is_l, q_is_t, q_nn_n, q_nn_i, q_nn_s, q_nn_l, q_nn_t, q_idx_l, q_idx_t, q_idx_s, q_sl_l, q_sl_s, shr_i, shr_b, shr_s, shr_n, shr_l, own_l, own_t, own_i, own_s, own_b, own_n, ownL_nil, ownL_cons, frz_l0, frz_l1, frz_t, frz_i, frz_s, frz_b, frz_n, frzL_nil, frzL_cons, at_0, at_1, at_2, disp_eq, it_l0, it_t, it_s, eno_s, eno_l, ty_ii, ty_ib, ty_is, ty_ss, ty_si, ty_bb, ty_bi, ty_ll, ty_tt, tr_b, tr_i, tr_l, dat_v, dat_l, dat_t, Option.bind_some, Option.map_some, Bool.or_false, Bool.false_or, Bool.true_and, List.set_cons_zero, List.set_cons_succ, if_true, if_false, Bool.false_eq_true, Bool.not_true, Bool.not_false, ↓reduceIte, List.map_cons, List.map_nil, List.cons_append, List.nil_append, List.replicate_succ, List.replicate_zero, List.length_cons, List.length_nil, Nat.reduceSub, Nat.reduceAdd, true_and, reduceCtorEq, false_and, false_or, or_false, exists_false, Nat.reduceLeDiff, Int.reduceLT, Int.reduceLE, Int.reduceNeg, decide_true, and_self, and_true, Int.toNat_natCast]; exact ⟨_, rfl, go (by rw [k3]; simp)⟩
          | false =>
            have z : inb c d q = false := by
              unfold inb
              rw [List.all_eq_false]
              exact ⟨p, List.mem_of_getElem? hp, by rw [k1, k2, k3]; simp⟩
            simp (config := {maxSteps := 4000000}) only [q_is_bb, q_nn_bb, q_eq_ns, q_eq_sn, q_eq_nn, q_ne_ns, q_ne_sn, q_ne_nn, q_in_t, q_in_l, q_nin_l, inL_strs, vB_some_, vNB_some_, ↓Xx_lc, ↓Xt_lc, ↓kLc_eq, ↓kLcR_eq, ↓kLe_d, ↓kLqb_eq, ↓kLq_eq, ↓lc_1, ↓lc_10, ↓lc_2, ↓lc_20, wipe_0, wipe_s, ↓kR2_eq, ↓kR2b_eq, ↓kR2c_eq, ↓kR2d_eq, ↓Xi_rng2, ↓kN_nx, ↓kN_rt, ↓kN_bk, ↓kN_ct, ↓Xy_skip, ↓Xy_seq, ↓kD_eq, ↓Xx_cst, ↓Xx_gc, ↓kV_eq, ↓Xx_var, ↓kM_eq, ↓Xx_mov, ↓kP_eq, ↓Xx_pk, ↓k1b_eq, ↓k1_eq, ↓Xx_p1, ↓k2d_eq, ↓k2c_eq, ↓k2b_eq, ↓k2_eq, ↓Xx_p2, ↓kIb_eq, ↓kI_eq, ↓Xx_isi, ↓kSd_eq, ↓kSc_eq, ↓kSb_eq, ↓kS_eq, ↓Xx_slc, ↓Xx_noE, ↓kOb_eq, ↓kO_eq, ↓Xx_so, ↓kTb_eq, ↓kT_eq, ↓Xx_tup, ↓kLb_eq, ↓kL_eq, ↓Xx_lst, ↓kCb_eq, ↓kC_eq, ↓Xx_call, ↓Xx_nil, ↓kAb_eq, ↓kA_eq, ↓Xx_cons, ↓Xx_one, ↓kAnb_eq, ↓kAn_eq, ↓Xx_and, ↓kOrb_eq, ↓kOr_eq, ↓Xx_or, ↓kNob_eq, ↓kNo_eq, ↓Xx_not, ↓kIfb_eq, ↓kIf_eq, ↓Xx_if, ↓kTrb_eq, ↓kTr_eq, ↓Xt_cst, ↓Xt_var, ↓Xt_pk, ↓Xt_p1, ↓Xt_p2, ↓Xt_isi, ↓Xt_call, ↓Xt_slc, ↓kE_eq, ↓kIv_d, ↓Xi_val, ↓kRb_eq, ↓kR_eq, ↓Xi_rng1, ↓kEnb_eq, ↓kEn_d, ↓Xi_enu, ↓kAs_d, ↓Xy_asg, ↓kApc_eq, ↓kApb_d, ↓kAp_eq, ↓Xy_app, ↓kX_eq, ↓Xy_ex, ↓kRt_d, ↓Xy_ret, ↓Xy_retN, ↓kItb_eq, ↓kIt_eq, ↓Xy_ite, ↓kF_eq, ↓Xy_for1, ↓kFT_eq, ↓Xy_forT, sl_zero, sl_succ, sd_some, sp_some, sp_if, sp_ifn, sb_some, sf_some, si_some, si_if, sint_some, so_some, res_d, res_pk, tv_t_d, tv_f, resL_nil, resL_cons, fz_d, fz_p, q_neg, q_len_s, q_len_l, q_len_t, q_int, q_int_b, q_add, q_add_s, q_sub, q_mul, q_fdiv, q_mod, q_pow, q_lt, q_le, q_gt, q_ge, q_eq_i, q_eq_s, q_eq_b, q_ne_i, q_ne_s, q_ne_b, q_in_s, q_nin_s, q_is_n, q_is_i, q_is_s, q_is_l, q_is_t, q_nn_n, q_nn_i, q_nn_s, q_nn_l, q_nn_t, q_idx_l, q_idx_t, q_idx_s, q_sl_l, q_sl_s, shr_i, shr_b, shr_s, shr_n, shr_l, own_l, own_t, own_i, own_s, own_b, own_n, ownL_nil, ownL_cons, frz_l0, frz_l1, frz_t, frz_i, frz_s, frz_b, frz_n, frzL_nil, frzL_cons, at_0, at_1, at_2, disp_eq, it_l0, it_t, it_s, eno_s, eno_l, ty_ii, ty_ib, ty_is, ty_ss, ty_si, ty_bb, ty_bi, ty_ll, ty_tt, tr_b, tr_i, tr_l, dat_v, dat_l, dat_t, Option.bind_some, Option.map_some, Bool.or_false, Bool.false_or, Bool.true_and, List.set_cons_zero, List.set_cons_succ, if_true, if_false, Bool.false_eq_true, Bool.not_true, Bool.not_false, ↓reduceIte, List.map_cons, List.map_nil, List.cons_append, List.nil_append, List.replicate_succ, List.replicate_zero, List.length_cons, List.length_nil, Nat.reduceSub, Nat.reduceAdd, true_and, reduceCtorEq, false_and, false_or, or_false, exists_false, Nat.reduceLeDiff, Int.reduceLT, Int.reduceLE, Int.reduceNeg, decide_true, and_self, and_true, Int.toNat_natCast]
            exact ⟨_, rfl, by rw [z]⟩
    · rintro e ⟨o2, rfl, hi⟩
      rw [List.length_map] at hi
      simp (config := {maxSteps := 4000000}) only [q_is_bb, q_nn_bb, q_eq_ns, q_eq_sn, q_eq_nn, q_ne_ns, q_ne_sn, q_ne_nn, q_in_t, q_in_l, q_nin_l, inL_strs, vB_some_, vNB_some_, ↓Xx_lc, ↓Xt_lc, ↓kLc_eq, ↓kLcR_eq, ↓kLe_d, ↓kLqb_eq, ↓kLq_eq, ↓lc_1, ↓lc_10, ↓lc_2, ↓lc_20, wipe_0, wipe_s, ↓kR2_eq, ↓kR2b_eq, ↓kR2c_eq, ↓kR2d_eq, ↓Xi_rng2, ↓kN_nx, ↓kN_rt, ↓kN_bk, ↓kN_ct, ↓Xy_skip, ↓Xy_seq, ↓kD_eq, ↓Xx_cst, ↓Xx_gc, ↓kV_eq, ↓Xx_var, ↓kM_eq, ↓Xx_mov, ↓kP_eq, ↓Xx_pk, ↓k1b_eq, ↓k1_eq, ↓Xx_p1, ↓k2d_eq, ↓k2c_eq, ↓k2b_eq, ↓k2_eq, ↓Xx_p2, ↓kIb_eq, ↓kI_eq, ↓Xx_isi, ↓kSd_eq, ↓kSc_eq, ↓kSb_eq, ↓kS_eq, ↓Xx_slc, ↓Xx_noE, ↓kOb_eq, ↓kO_eq, ↓Xx_so, ↓kTb_eq, ↓kT_eq, ↓Xx_tup, ↓kLb_eq, ↓kL_eq, ↓Xx_lst, ↓kCb_eq, ↓kC_eq, ↓Xx_call, ↓Xx_nil, ↓kAb_eq, ↓kA_eq, ↓Xx_cons, ↓Xx_one, ↓kAnb_eq, ↓kAn_eq, ↓Xx_and, ↓kOrb_eq, ↓kOr_eq, ↓Xx_or, ↓kNob_eq, ↓kNo_eq, ↓Xx_not, ↓kIfb_eq, ↓kIf_eq, ↓Xx_if, ↓kTrb_eq, ↓kTr_eq, ↓Xt_cst, ↓Xt_var, ↓Xt_pk, ↓Xt_p1, ↓Xt_p2, ↓Xt_isi, ↓Xt_call, ↓Xt_slc, ↓kE_eq, ↓kIv_d, ↓Xi_val, ↓kRb_eq, ↓kR_eq, ↓Xi_rng1, ↓kEnb_eq, ↓kEn_d, ↓Xi_enu, ↓kAs_d, ↓Xy_asg, ↓kApc_eq, ↓kApb_d, ↓kAp_eq, ↓Xy_app, ↓kX_eq, ↓Xy_ex, ↓kRt_d, ↓Xy_ret, ↓Xy_retN, ↓kItb_eq, ↓kIt_eq, ↓Xy_ite, ↓kF_eq, ↓Xy_for1, ↓kFT_eq, ↓Xy_forT, sl_zero, sl_succ, sd_some, sp_some, sp_if, sp_ifn, sb_some, sf_some, si_some, si_if, sint_some, so_some, res_d, res_pk, tv_t_d, tv_f, resL_nil, resL_cons, fz_d, fz_p, q_neg, q_len_s, q_len_l, q_len_t, q_int, q_int_b, q_add, q_add_s, q_sub, q_mul, q_fdiv, q_mod, q_pow, q_lt, q_le, q_gt, q_ge, q_eq_i, q_eq_s, q_eq_b, q_ne_i, q_ne_s, q_ne_b, q_in_s, q_nin_s, q_is_n, q_is_i, q_is_s, q_is_l, q_is_t, q_nn_n, q_nn_i, q_nn_s, q_nn_l, q_nn_t, q_idx_l, q_idx_t, q_idx_s, q_sl_l, q_sl_s, shr_i, shr_b, shr_s, shr_n, shr_l, own_l, own_t, own_i, own_s, own_b, own_n, ownL_nil, ownL_cons, frz_l0, frz_l1, frz_t, frz_i, frz_s, frz_b, frz_n, frzL_nil, frzL_cons, at_0, at_1, at_2, disp_eq, it_l0, it_t, it_s, eno_s, eno_l, ty_ii, ty_ib, ty_is, ty_ss, ty_si, ty_bb, ty_bi, ty_ll, ty_tt, tr_b, tr_i, tr_l, dat_v, dat_l, dat_t, Option.bind_some, Option.map_some, Bool.or_false, Bool.false_or, Bool.true_and, List.set_cons_zero, List.set_cons_succ, if_true, if_false, Bool.false_eq_true, Bool.not_true, Bool.not_false, ↓reduceIte, List.map_cons, List.map_nil, List.cons_append, List.nil_append, List.replicate_succ, List.replicate_zero, List.length_cons, List.length_nil, Nat.reduceSub, Nat.reduceAdd, true_and, reduceCtorEq, false_and, false_or, or_false, exists_false, Nat.reduceLeDiff, Int.reduceLT, Int.reduceLE, Int.reduceNeg, decide_true, and_self, and_true, Int.toNat_natCast]
      have : inb c d q = true := by
        unfold inb
        rw [List.all_eq_true]
        intro p hp
        obtain ⟨j, hj⟩ := List.getElem?_of_mem hp
        exact hi j (List.getElem?_eq_some_iff.mp hj).1 p hj
      rw [this]
    · rintro r e rfl
      simp (config := {maxSteps := 4000000}) only [q_is_bb, q_nn_bb, q_eq_ns, q_eq_sn, q_eq_nn, q_ne_ns, q_ne_sn, q_ne_nn, q_in_t, q_in_l, q_nin_l, inL_strs, vB_some_, vNB_some_, ↓Xx_lc, ↓Xt_lc, ↓kLc_eq, ↓kLcR_eq, ↓kLe_d, ↓kLqb_eq, ↓kLq_eq, ↓lc_1, ↓lc_10, ↓lc_2, ↓lc_20, wipe_0, wipe_s, ↓kR2_eq, ↓kR2b_eq, ↓kR2c_eq, ↓kR2d_eq, ↓Xi_rng2, ↓kN_nx, ↓kN_rt, ↓kN_bk, ↓kN_ct, ↓Xy_skip, ↓Xy_seq, ↓kD_eq, ↓Xx_cst, ↓Xx_gc, ↓kV_eq, ↓Xx_var, ↓kM_eq, ↓Xx_mov, ↓kP_eq, ↓Xx_pk, ↓k1b_eq, ↓k1_eq, ↓Xx_p1, ↓k2d_eq, ↓k2c_eq, ↓k2b_eq, ↓k2_eq, ↓Xx_p2, ↓kIb_eq, ↓kI_eq, ↓Xx_isi, ↓kSd_eq, ↓kSc_eq, ↓kSb_eq, ↓kS_eq, ↓Xx_slc, ↓Xx_noE, ↓kOb_eq, ↓kO_eq, ↓Xx_so, ↓kTb_eq, ↓kT_eq, ↓Xx_tup, ↓kLb_eq, ↓kL_eq, ↓Xx_lst, ↓kCb_eq, ↓kC_eq, ↓Xx_call, ↓Xx_nil, ↓kAb_eq, ↓kA_eq, ↓Xx_cons, ↓Xx_one, ↓kAnb_eq, ↓kAn_eq, ↓Xx_and, ↓kOrb_eq, ↓kOr_eq, ↓Xx_or, ↓kNob_eq, ↓kNo_eq, ↓Xx_not, ↓kIfb_eq, ↓kIf_eq, ↓Xx_if, ↓kTrb_eq, ↓kTr_eq, ↓Xt_cst, ↓Xt_var, ↓Xt_pk, ↓Xt_p1, ↓Xt_p2, ↓Xt_isi, ↓Xt_call, ↓Xt_slc, ↓kE_eq, ↓kIv_d, ↓Xi_val, ↓kRb_eq, ↓kR_eq, ↓Xi_rng1, ↓kEnb_eq, ↓kEn_d, ↓Xi_enu, ↓kAs_d, ↓Xy_asg, ↓kApc_eq, ↓kApb_d, ↓kAp_eq, ↓Xy_app, ↓kX_eq, ↓Xy_ex, ↓kRt_d, ↓Xy_ret, ↓Xy_retN, ↓kItb_eq, ↓kIt_eq, ↓Xy_ite, ↓kF_eq, ↓Xy_for1, ↓kFT_eq, ↓Xy_forT, sl_zero, sl_succ, sd_some, sp_some, sp_if, sp_ifn, sb_some, sf_some, si_some, si_if, sint_some, so_some, res_d, res_pk, tv_t_d, tv_f, resL_nil, resL_cons, fz_d, fz_p, q_neg, q_len_s, q_len_l, q_len_t, q_int, q_int_b, q_add, q_add_s, q_sub, q_mul, q_fdiv, q_mod, q_pow, q_lt, q_le, q_gt, q_ge, q_eq_i, q_eq_s, q_eq_b, q_ne_i, q_ne_s, q_ne_b, q_in_s, q_nin_s, q_is_n, q_is_i, q_is_s, q_is_l, q_is_t, q_nn_n, q_nn_i, q_nn_s, q_nn_l, q_nn_t, q_idx_l, q_idx_t, q_idx_s, q_sl_l, q_sl_s, shr_i, shr_b, shr_s, shr_n, shr_l, own_l, own_t, own_i, own_s, own_b, own_n, ownL_nil, ownL_cons, frz_l0, frz_l1, frz_t, frz_i, frz_s, frz_b, frz_n, frzL_nil, frzL_cons, at_0, at_1, at_2, disp_eq, it_l0, it_t, it_s, eno_s, eno_l, ty_ii, ty_ib, ty_is, ty_ss, ty_si, ty_bb, ty_bi, ty_ll, ty_tt, tr_b, tr_i, tr_l, dat_v, dat_l, dat_t, Option.bind_some, Option.map_some, Bool.or_false, Bool.false_or, Bool.true_and, List.set_cons_zero, List.set_cons_succ, if_true, if_false, Bool.false_eq_true, Bool.not_true, Bool.not_false, ↓reduceIte, List.map_cons, List.map_nil, List.cons_append, List.nil_append, List.replicate_succ, List.replicate_zero, List.length_cons, List.length_nil, Nat.reduceSub, Nat.reduceAdd, true_and, reduceCtorEq, false_and, false_or, or_false, exists_false, Nat.reduceLeDiff, Int.reduceLT, Int.reduceLE, Int.reduceNeg, decide_true, and_self, and_true, Int.toNat_natCast]
theorem at10_0 : at_ [49, 48] 0 = some 49 := rfl
theorem at10_1 : at_ [49, 48] 1 = some 48 := rfl
theorem dd0 : decide (([48] : List Nat) = [45]) = false := rfl
theorem dd1 : decide (([49] : List Nat) = [45]) = false := rfl
theorem dd2 : decide (([45] : List Nat) = [45]) = true := rfl
theorem r_near (n : Nat) (c d : List Nat) (k : Int) (hl : c.length = d.length) (hs : c.length ≤ 1000) (hc : IsC c) (hd : IsC d) : ∃ v, OI.run gcs tab (n + 1) 13 [.str c, .str d, .int k] = some (.ok v) ∧ ∃ s, v = .str s ∧ s.length = c.length ∧ IsC s := by
  refine run_ex (d := d13) rfl rfl ?_
  simp (config := {maxSteps := 4000000}) only [q_is_bb, q_nn_bb, q_eq_ns, q_eq_sn, q_eq_nn, q_ne_ns, q_ne_sn, q_ne_nn, q_in_t, q_in_l, q_nin_l, inL_strs, vB_some_, vNB_some_, ↓Xx_lc, ↓Xt_lc, ↓kLc_eq, ↓kLcR_eq, ↓kLe_d, ↓kLqb_eq, ↓kLq_eq, ↓lc_1, ↓lc_10, ↓lc_2, ↓lc_20, wipe_0, wipe_s, ↓kR2_eq, ↓kR2b_eq, ↓kR2c_eq, ↓kR2d_eq, ↓Xi_rng2, ↓kN_nx, ↓kN_rt, ↓kN_bk, ↓kN_ct, ↓Xy_skip, ↓Xy_seq, ↓kD_eq, ↓Xx_cst, ↓Xx_gc, ↓kV_eq, ↓Xx_var, ↓kM_eq, ↓Xx_mov, ↓kP_eq, ↓Xx_pk, ↓k1b_eq, ↓k1_eq, ↓Xx_p1, ↓k2d_eq, ↓k2c_eq, ↓k2b_eq, ↓k2_eq, ↓Xx_p2, ↓kIb_eq, ↓kI_eq, ↓Xx_isi, ↓kSd_eq, ↓kSc_eq, ↓kSb_eq, ↓kS_eq, ↓Xx_slc, ↓Xx_noE, ↓kOb_eq, ↓kO_eq, ↓Xx_so, ↓kTb_eq, ↓kT_eq, ↓Xx_tup, ↓kLb_eq, ↓kL_eq, ↓Xx_lst, ↓kCb_eq, ↓kC_eq, ↓Xx_call, ↓Xx_nil, ↓kAb_eq, ↓kA_eq, ↓Xx_cons, ↓Xx_one, ↓kAnb_eq, ↓kAn_eq, ↓Xx_and, ↓kOrb_eq, ↓kOr_eq, ↓Xx_or, ↓kNob_eq, ↓kNo_eq, ↓Xx_not, ↓kIfb_eq, ↓kIf_eq, ↓Xx_if, ↓kTrb_eq, ↓kTr_eq, ↓Xt_cst, ↓Xt_var, ↓Xt_pk, ↓Xt_p1, ↓Xt_p2, ↓Xt_isi, ↓Xt_call, ↓Xt_slc, ↓kE_eq, ↓kIv_d, ↓Xi_val, ↓kRb_eq, ↓kR_eq, ↓Xi_rng1, ↓kEnb_eq, ↓kEn_d, ↓Xi_enu, ↓kAs_d, ↓Xy_asg, ↓kApc_eq, ↓kApb_d, ↓kAp_eq, ↓Xy_app, ↓kX_eq, ↓Xy_ex, ↓kRt_d, ↓Xy_ret, ↓Xy_retN, ↓kItb_eq, ↓kIt_eq, ↓Xy_ite, ↓kF_eq, ↓Xy_for1, ↓kFT_eq, ↓Xy_forT, sl_zero, sl_succ, sd_some, sp_some, sp_if, sp_ifn, sb_some, sf_some, si_some, si_if, sint_some, so_some, res_d, res_pk, tv_t_d, tv_f, resL_nil, resL_cons, fz_d, fz_p, q_neg, q_len_s, q_len_l, q_len_t, q_int, q_int_b, q_add, q_add_s, q_sub, q_mul, q_fdiv, q_mod, q_pow, q_lt, q_le, q_gt, q_ge, q_eq_i, q_eq_s, q_eq_b, q_ne_i, q_ne_s, q_ne_b, q_in_s, q_nin_s, q_is_n, q_is_i, q_is_s, q_is_l, q_is_t, q_nn_n, q_nn_i, q_nn_s, q_nn_l, q_nn_t, q_idx_l, q_idx_t, q_idx_s, q_sl_l, q_sl_s, shr_i, shr_b, shr_s, shr_n, shr_l, own_l, own_t, own_i, own_s, own_b, own_n, ownL_nil, ownL_cons, frz_l0, frz_l1, frz_t, frz_i, frz_s, frz_b, frz_n, frzL_nil, frzL_cons, at_0, at_1, at_2, disp_eq, it_l0, it_t, it_s, eno_s, eno_l, ty_ii, ty_ib, ty_is, ty_ss, ty_si, ty_bb, ty_bi, ty_ll, ty_tt, tr_b, tr_i, tr_l, dat_v, dat_l, dat_t, Option.bind_some, Option.map_some, Bool.or_false, Bool.false_or, Bool.true_and, List.set_cons_zero, List.set_cons_succ, if_true, if_false, Bool.false_eq_true, Bool.not_true, Bool.not_false, ↓reduceIte, List.map_cons, List.map_nil, List.cons_append, List.nil_append, List.replicate_succ, List.replicate_zero, List.length_cons, List.length_nil, Nat.reduceSub, Nat.reduceAdd, true_and, reduceCtorEq, false_and, false_or, or_false, exists_false, Nat.reduceLeDiff, Int.reduceLT, Int.reduceLE, Int.reduceNeg, decide_true, and_self, and_true, Int.toNat_natCast, d13, c13]
  refine ⟨⟨by omega, by omega⟩, ?_⟩
  refine for_inv (fun i e => ∃ s o4, e = [some (.str c), some (.str d), some (.int k), some (.str s), o4] ∧ s.length = i ∧ IsC s) ⟨[], none, rfl, rfl, fun c hc => nomatch hc⟩ ?_ ?_
  · rintro i y e hy ⟨s, o4, rfl, hl', hs'⟩
    obtain ⟨hi, rfl⟩ := rng_get hy
    have hi : i < c.length := by simpa using hi
    obtain ⟨a, ha⟩ := get_ex (s := c) (k := i) (by omega)
    obtain ⟨b, hb⟩ := get_ex (s := d) (k := i) (by omega)
    have hac := hc a (List.mem_of_getElem? ha)
    have hbc := hd b (List.mem_of_getElem? hb)
    have ln : s.length + 1 ≤ lineN := line_le (by omega)
    rw [lp1_eq]
    rcases hac with rfl | rfl | rfl
    · simp (config := {maxSteps := 4000000}) only [q_is_bb, q_nn_bb, q_eq_ns, q_eq_sn, q_eq_nn, q_ne_ns, q_ne_sn, q_ne_nn, q_in_t, q_in_l, q_nin_l, inL_strs, vB_some_, vNB_some_, ↓Xx_lc, ↓Xt_lc, ↓kLc_eq, ↓kLcR_eq, ↓kLe_d, ↓kLqb_eq, ↓kLq_eq, ↓lc_1, ↓lc_10, ↓lc_2, ↓lc_20, wipe_0, wipe_s, ↓kR2_eq, ↓kR2b_eq, ↓kR2c_eq, ↓kR2d_eq, ↓Xi_rng2, ↓kN_nx, ↓kN_rt, ↓kN_bk, ↓kN_ct, ↓Xy_skip, ↓Xy_seq, ↓kD_eq, ↓Xx_cst, ↓Xx_gc, ↓kV_eq, ↓Xx_var, ↓kM_eq, ↓Xx_mov, ↓kP_eq, ↓Xx_pk, ↓k1b_eq, ↓k1_eq, ↓Xx_p1, ↓k2d_eq, ↓k2c_eq, ↓k2b_eq, ↓k2_eq, ↓Xx_p2, ↓kIb_eq, ↓kI_eq, ↓Xx_isi, ↓kSd_eq, ↓kSc_eq, ↓kSb_eq, ↓kS_eq, ↓Xx_slc, ↓Xx_noE, ↓kOb_eq, ↓kO_eq, ↓Xx_so, ↓kTb_eq, ↓kT_eq, ↓Xx_tup, ↓kLb_eq, ↓kL_eq, ↓Xx_lst, ↓kCb_eq, ↓kC_eq, ↓Xx_call, ↓Xx_nil, ↓kAb_eq, ↓kA_eq, ↓Xx_cons, ↓Xx_one, ↓kAnb_eq, ↓kAn_eq, ↓Xx_and, ↓kOrb_eq, ↓kOr_eq, ↓Xx_or, ↓kNob_eq, ↓kNo_eq, ↓Xx_not, ↓kIfb_eq, ↓kIf_eq, ↓Xx_if, ↓kTrb_eq, ↓kTr_eq, ↓Xt_cst, ↓Xt_var, ↓Xt_pk, ↓Xt_p1, ↓Xt_p2, ↓Xt_isi, ↓Xt_call, ↓Xt_slc, ↓kE_eq, ↓kIv_d, ↓Xi_val, ↓kRb_eq, ↓kR_eq, ↓Xi_rng1, ↓kEnb_eq, ↓kEn_d, ↓Xi_enu, ↓kAs_d, ↓Xy_asg, ↓kApc_eq, ↓kApb_d, ↓kAp_eq, ↓Xy_app, ↓kX_eq, ↓Xy_ex, ↓kRt_d, ↓Xy_ret, ↓Xy_retN, ↓kItb_eq, ↓kIt_eq, ↓Xy_ite, ↓kF_eq, ↓Xy_for1, ↓kFT_eq, ↓Xy_forT, sl_zero, sl_succ, sd_some, sp_some, sp_if, sp_ifn, sb_some, sf_some, si_some, si_if, sint_some, so_some, res_d, res_pk, tv_t_d, tv_f, resL_nil, resL_cons, fz_d, fz_p, q_neg, q_len_s, q_len_l, q_len_t, q_int, q_int_b, q_add, q_add_s, q_sub, q_mul, q_fdiv, q_mod, q_pow, q_lt, q_le, q_gt, q_ge, q_eq_i, q_eq_s, q_eq_b, q_ne_i, q_ne_s, q_ne_b, q_in_s, q_nin_s, q_is_n, q_is_i, q_is_s, q_is_l, q_is_t, q_nn_n, q_nn_i, q_nn_s, q_nn_l, q_nn_t, q_idx_l, q_idx_t, q_idx_s, q_sl_l, q_sl_s, shr_i, shr_b, shr_s, shr_n, shr_l, own_l, own_t, own_i, own_s, own_b, own_n, ownL_nil, ownL_cons, frz_l0, frz_l1, frz_t, frz_i, frz_s, frz_b, frz_n, frzL_nil, frzL_cons, at_0, at_1, at_2, disp_eq, it_l0, it_t, it_s, eno_s, eno_l, ty_ii, ty_ib, ty_is, ty_ss, ty_si, ty_bb, ty_bi, ty_ll, ty_tt, tr_b, tr_i, tr_l, dat_v, dat_l, dat_t, Option.bind_some, Option.map_some, Bool.or_false, Bool.false_or, Bool.true_and, List.set_cons_zero, List.set_cons_succ, if_true, if_false, Bool.false_eq_true, Bool.not_true, Bool.not_false, ↓reduceIte, List.map_cons, List.map_nil, List.cons_append, List.nil_append, List.replicate_succ, List.replicate_zero, List.length_cons, List.length_nil, Nat.reduceSub, Nat.reduceAdd, true_and, reduceCtorEq, false_and, false_or, or_false, exists_false, Nat.reduceLeDiff, Int.reduceLT, Int.reduceLE, Int.reduceNeg, decide_true, and_self, and_true, Int.toNat_natCast, at_nat ha, at_nat hb, q_int_0, at10_0, dd0]
      refine ite2 (fun h => ?_) (fun h => ?_)
      · exact ⟨ln, _, _, rfl, by simp; omega, isC_snoc hs' (.inr (.inl rfl))⟩
      · refine ite2 (fun h2 => ?_) (fun h2 => ?_)
        · exact ⟨ln, _, _, rfl, by simp; omega, isC_snoc hs' (.inr (.inr rfl))⟩
        · exact ⟨ln, _, _, rfl, by simp; omega, isC_snoc hs' (.inl rfl)⟩
    · simp (config := {maxSteps := 4000000}) only [q_is_bb, q_nn_bb, q_eq_ns, q_eq_sn, q_eq_nn, q_ne_ns, q_ne_sn, q_ne_nn, q_in_t, q_in_l, q_nin_l, inL_strs, vB_some_, vNB_some_, ↓Xx_lc, ↓Xt_lc, ↓kLc_eq, ↓kLcR_eq, ↓kLe_d, ↓kLqb_eq, ↓kLq_eq, ↓lc_1, ↓lc_10, ↓lc_2, ↓lc_20, wipe_0, wipe_s, ↓kR2_eq, ↓kR2b_eq, ↓kR2c_eq, ↓kR2d_eq, ↓Xi_rng2, ↓kN_nx, ↓kN_rt, ↓kN_bk, ↓kN_ct, ↓Xy_skip, ↓Xy_seq, ↓kD_eq, ↓Xx_cst, ↓Xx_gc, ↓kV_eq, ↓Xx_var, ↓kM_eq, ↓Xx_mov, ↓kP_eq, ↓Xx_pk, ↓k1b_eq, ↓k1_eq, ↓Xx_p1, ↓k2d_eq, ↓k2c_eq, ↓k2b_eq, ↓k2_eq, ↓Xx_p2, ↓kIb_eq, ↓kI_eq, ↓Xx_isi, ↓kSd_eq, ↓kSc_eq, ↓kSb_eq, ↓kS_eq, ↓Xx_slc, ↓Xx_noE, ↓kOb_eq, ↓kO_eq, ↓Xx_so, ↓kTb_eq, ↓kT_eq, ↓Xx_tup, ↓kLb_eq, ↓kL_eq, ↓Xx_lst, ↓kCb_eq, ↓kC_eq, ↓Xx_call, ↓Xx_nil, ↓kAb_eq, ↓kA_eq, ↓Xx_cons, ↓Xx_one, ↓kAnb_eq, ↓kAn_eq, ↓Xx_and, ↓kOrb_eq, ↓kOr_eq, ↓Xx_or, ↓kNob_eq, ↓kNo_eq, ↓Xx_not, ↓kIfb_eq, ↓kIf_eq, ↓Xx_if, ↓kTrb_eq, ↓kTr_eq, ↓Xt_cst, ↓Xt_var, ↓Xt_pk, ↓Xt_p1, ↓Xt_p2, ↓Xt_isi, ↓Xt_call, ↓Xt_slc, ↓kE_eq, ↓kIv_d, ↓Xi_val, ↓kRb_eq, ↓kR_eq, ↓Xi_rng1, ↓kEnb_eq, ↓kEn_d, ↓Xi_enu, ↓kAs_d, ↓Xy_asg, ↓kApc_eq, ↓kApb_d, ↓kAp_eq, ↓Xy_app, ↓kX_eq, ↓Xy_ex, ↓kRt_d, ↓Xy_ret, ↓Xy_retN, ↓kItb_eq, ↓kIt_eq, ↓Xy_ite, ↓kF_eq, ↓Xy_for1, ↓kFT_eq, ↓Xy_forT, sl_zero, sl_succ, sd_some, sp_some, sp_if, sp_ifn, sb_some, sf_some, si_some, si_if, sint_some, so_some, res_d, res_pk, tv_t_d, tv_f, resL_nil, resL_cons, fz_d, fz_p, q_neg, q_len_s, q_len_l, q_len_t, q_int, q_int_b, q_add, q_add_s, q_sub, q_mul, q_fdiv, q_mod, q_pow, q_lt, q_le, q_gt, q_ge, q_eq_i, q_eq_s, q_eq_b, q_ne_i, q_ne_s, q_ne_b, q_in_s, q_nin_s, q_is_n, q_is_i, q_is_s, q_is_l, q_is_t, q_nn_n, q_nn_i, q_nn_s, q_nn_l, q_nn_t, q_idx_l, q_idx_t, q_idx_s, q_sl_l, q_sl_s, shr_i, shr_b, shr_s, shr_n, shr_l, own_l, own_t, own_i, own_s, own_b, own_n, ownL_nil, ownL_cons, frz_l0, frz_l1, frz_t, frz_i, frz_s, frz_b, frz_n, frzL_nil, frzL_cons, at_0, at_1, at_2, disp_eq, it_l0, it_t, it_s, eno_s, eno_l, ty_ii, ty_ib, ty_is, ty_ss, ty_si, ty_bb, ty_bi, ty_ll, ty_tt, tr_b, tr_i, tr_l, dat_v, dat_l, dat_t, Option.bind_some, Option.map_some, Bool.or_false, Bool.false_or, Bool.true_and, List.set_cons_zero, List.set_cons_succ, if_true, if_false, Bool.false_eq_true, Bool.not_true, Bool.not_false, ↓reduceIte, List.map_cons, List.map_nil, List.cons_append, List.nil_append, List.replicate_succ, List.replicate_zero, List.length_cons, List.length_nil, Nat.reduceSub, Nat.reduceAdd, true_and, reduceCtorEq, false_and, false_or, or_false, exists_false, Nat.reduceLeDiff, Int.reduceLT, Int.reduceLE, Int.reduceNeg, decide_true, and_self, and_true, Int.toNat_natCast, at_nat ha, at_nat hb, q_int_1, at10_1, dd1]
      refine ite2 (fun h => ?_) (fun h => ?_)
      · exact ⟨ln, _, _, rfl, by simp; omega, isC_snoc hs' (.inl rfl)⟩
      · refine ite2 (fun h2 => ?_) (fun h2 => ?_)
        · exact ⟨ln, _, _, rfl, by simp; omega, isC_snoc hs' (.inr (.inr rfl))⟩
        · exact ⟨ln, _, _, rfl, by simp; omega, isC_snoc hs' (.inr (.inl rfl))⟩
    · simp (config := {maxSteps := 4000000}) only [q_is_bb, q_nn_bb, q_eq_ns, q_eq_sn, q_eq_nn, q_ne_ns, q_ne_sn, q_ne_nn, q_in_t, q_in_l, q_nin_l, inL_strs, vB_some_, vNB_some_, ↓Xx_lc, ↓Xt_lc, ↓kLc_eq, ↓kLcR_eq, ↓kLe_d, ↓kLqb_eq, ↓kLq_eq, ↓lc_1, ↓lc_10, ↓lc_2, ↓lc_20, wipe_0, wipe_s, ↓kR2_eq, ↓kR2b_eq, ↓kR2c_eq, ↓kR2d_eq, ↓Xi_rng2, ↓kN_nx, ↓kN_rt, ↓kN_bk, ↓kN_ct, ↓Xy_skip, ↓Xy_seq, ↓kD_eq, ↓Xx_cst, ↓Xx_gc, ↓kV_eq, ↓Xx_var, ↓kM_eq, ↓Xx_mov, ↓kP_eq, ↓Xx_pk, ↓k1b_eq, ↓k1_eq, ↓Xx_p1, ↓k2d_eq, ↓k2c_eq, ↓k2b_eq, ↓k2_eq, ↓Xx_p2, ↓kIb_eq, ↓kI_eq, ↓Xx_isi, ↓kSd_eq, ↓kSc_eq, ↓kSb_eq, ↓kS_eq, ↓Xx_slc, ↓Xx_noE, ↓kOb_eq, ↓kO_eq, ↓Xx_so, ↓kTb_eq, ↓kT_eq, ↓Xx_tup, ↓kLb_eq, ↓kL_eq, ↓Xx_lst, ↓kCb_eq, ↓kC_eq, ↓Xx_call, ↓Xx_nil, ↓kAb_eq, ↓kA_eq, ↓Xx_cons, ↓Xx_one, ↓kAnb_eq, ↓kAn_eq, ↓Xx_and, ↓kOrb_eq, ↓kOr_eq, ↓Xx_or, ↓kNob_eq, ↓kNo_eq, ↓Xx_not, ↓kIfb_eq, ↓kIf_eq, ↓Xx_if, ↓kTrb_eq, ↓kTr_eq, ↓Xt_cst, ↓Xt_var, ↓Xt_pk, ↓Xt_p1, ↓Xt_p2, ↓Xt_isi, ↓Xt_call, ↓Xt_slc, ↓kE_eq, ↓kIv_d, ↓Xi_val, ↓kRb_eq, ↓kR_eq, ↓Xi_rng1, ↓kEnb_eq, ↓kEn_d, ↓Xi_enu, ↓kAs_d, ↓Xy_asg, ↓kApc_eq, ↓kApb_d, ↓kAp_eq, ↓Xy_app, ↓kX_eq, ↓Xy_ex, ↓kRt_d, ↓Xy_ret, ↓Xy_retN, ↓kItb_eq, ↓kIt_eq, ↓Xy_ite, ↓kF_eq, ↓Xy_for1, ↓kFT_eq, ↓Xy_forT, sl_zero, sl_succ, sd_some, sp_some, sp_if, sp_ifn, sb_some, sf_some, si_some, si_if, sint_some, so_some, res_d, res_pk, tv_t_d, tv_f, resL_nil, resL_cons, fz_d, fz_p, q_neg, q_len_s, q_len_l, q_len_t, q_int, q_int_b, q_add, q_add_s, q_sub, q_mul, q_fdiv, q_mod, q_pow, q_lt, q_le, q_gt, q_ge, q_eq_i, q_eq_s, q_eq_b, q_ne_i, q_ne_s, q_ne_b, q_in_s, q_nin_s, q_is_n, q_is_i, q_is_s, q_is_l, q_is_t, q_nn_n, q_nn_i, q_nn_s, q_nn_l, q_nn_t, q_idx_l, q_idx_t, q_idx_s, q_sl_l, q_sl_s, shr_i, shr_b, shr_s, shr_n, shr_l, own_l, own_t, own_i, own_s, own_b, own_n, ownL_nil, ownL_cons, frz_l0, frz_l1, frz_t, frz_i, frz_s, frz_b, frz_n, frzL_nil, frzL_cons, at_0, at_1, at_2, disp_eq, it_l0, it_t, it_s, eno_s, eno_l, ty_ii, ty_ib, ty_is, ty_ss, ty_si, ty_bb, ty_bi, ty_ll, ty_tt, tr_b, tr_i, tr_l, dat_v, dat_l, dat_t, Option.bind_some, Option.map_some, Bool.or_false, Bool.false_or, Bool.true_and, List.set_cons_zero, List.set_cons_succ, if_true, if_false, Bool.false_eq_true, Bool.not_true, Bool.not_false, ↓reduceIte, List.map_cons, List.map_nil, List.cons_append, List.nil_append, List.replicate_succ, List.replicate_zero, List.length_cons, List.length_nil, Nat.reduceSub, Nat.reduceAdd, true_and, reduceCtorEq, false_and, false_or, or_false, exists_false, Nat.reduceLeDiff, Int.reduceLT, Int.reduceLE, Int.reduceNeg, decide_true, and_self, and_true, Int.toNat_natCast, at_nat ha, at_nat hb, dd2]
      refine ite2 (fun h => ?_) (fun h => ?_)
      · exact ⟨ln, _, _, rfl, by simp; omega, isC_snoc hs' hbc⟩
      · exact ⟨ln, _, _, rfl, by simp; omega, isC_snoc hs' hbc⟩
  · rintro e ⟨s, o4, rfl, hl', hs'⟩
    rw [List.length_map, List.length_range] at hl'
    simp (config := {maxSteps := 4000000}) only [q_is_bb, q_nn_bb, q_eq_ns, q_eq_sn, q_eq_nn, q_ne_ns, q_ne_sn, q_ne_nn, q_in_t, q_in_l, q_nin_l, inL_strs, vB_some_, vNB_some_, ↓Xx_lc, ↓Xt_lc, ↓kLc_eq, ↓kLcR_eq, ↓kLe_d, ↓kLqb_eq, ↓kLq_eq, ↓lc_1, ↓lc_10, ↓lc_2, ↓lc_20, wipe_0, wipe_s, ↓kR2_eq, ↓kR2b_eq, ↓kR2c_eq, ↓kR2d_eq, ↓Xi_rng2, ↓kN_nx, ↓kN_rt, ↓kN_bk, ↓kN_ct, ↓Xy_skip, ↓Xy_seq, ↓kD_eq, ↓Xx_cst, ↓Xx_gc, ↓kV_eq, ↓Xx_var, ↓kM_eq, ↓Xx_mov, ↓kP_eq, ↓Xx_pk, ↓k1b_eq, ↓k1_eq, ↓Xx_p1, ↓k2d_eq, ↓k2c_eq, ↓k2b_eq, ↓k2_eq, ↓Xx_p2, ↓kIb_eq, ↓kI_eq, ↓Xx_isi, ↓kSd_eq, ↓kSc_eq, ↓kSb_eq, ↓kS_eq, ↓Xx_slc, ↓Xx_noE, ↓kOb_eq, ↓kO_eq, ↓Xx_so, ↓kTb_eq, ↓kT_eq, ↓Xx_tup, ↓kLb_eq, ↓kL_eq, ↓Xx_lst, ↓kCb_eq, ↓kC_eq, ↓Xx_call, ↓Xx_nil, ↓kAb_eq, ↓kA_eq, ↓Xx_cons, ↓Xx_one, ↓kAnb_eq, ↓kAn_eq, ↓Xx_and, ↓kOrb_eq, ↓kOr_eq, ↓Xx_or, ↓kNob_eq, ↓kNo_eq, ↓Xx_not, ↓kIfb_eq, ↓kIf_eq, ↓Xx_if, ↓kTrb_eq, ↓kTr_eq, ↓Xt_cst, ↓Xt_var, ↓Xt_pk, ↓Xt_p1, ↓Xt_p2, ↓Xt_isi, ↓Xt_call, ↓Xt_slc, ↓kE_eq, ↓kIv_d, ↓Xi_val, ↓kRb_eq, ↓kR_eq, ↓Xi_rng1, ↓kEnb_eq, ↓kEn_d, ↓Xi_enu, ↓kAs_d, ↓Xy_asg, ↓kApc_eq, ↓kApb_d, ↓kAp_eq, ↓Xy_app, ↓kX_eq, ↓Xy_ex, ↓kRt_d, ↓Xy_ret, ↓Xy_retN, ↓kItb_eq, ↓kIt_eq, ↓Xy_ite, ↓kF_eq, ↓Xy_for1, ↓kFT_eq, ↓Xy_forT, sl_zero, sl_succ, sd_some, sp_some, sp_if, sp_ifn, sb_some, sf_some, si_some, si_if, sint_some, so_some, res_d, res_pk, tv_t_d, tv_f, resL_nil, resL_cons, fz_d, fz_p, q_neg, q_len_s, q_len_l, q_len_t, q_int, q_int_b, q_add, q_add_s, q_sub, q_mul, q_fdiv, q_mod, q_pow, q_lt, q_le, q_gt, q_ge, q_eq_i, q_eq_s, q_eq_b, q_ne_i, q_ne_s, q_ne_b, q_in_s, q_nin_s, q_is_n, q_is_i, q_is_s, q_is_l, q_is_t, q_nn_n, q_nn_i, q_nn_s, q_nn_l, q_nn_t, q_idx_l, q_idx_t, q_idx_s, q_sl_l, q_sl_s, shr_i, shr_b, shr_s, shr_n, shr_l, own_l, own_t, own_i, own_s, own_b, own_n, ownL_nil, ownL_cons, frz_l0, frz_l1, frz_t, frz_i, frz_s, frz_b, frz_n, frzL_nil, frzL_cons, at_0, at_1, at_2, disp_eq, it_l0, it_t, it_s, eno_s, eno_l, ty_ii, ty_ib, ty_is, ty_ss, ty_si, ty_bb, ty_bi, ty_ll, ty_tt, tr_b, tr_i, tr_l, dat_v, dat_l, dat_t, Option.bind_some, Option.map_some, Bool.or_false, Bool.false_or, Bool.true_and, List.set_cons_zero, List.set_cons_succ, if_true, if_false, Bool.false_eq_true, Bool.not_true, Bool.not_false, ↓reduceIte, List.map_cons, List.map_nil, List.cons_append, List.nil_append, List.replicate_succ, List.replicate_zero, List.length_cons, List.length_nil, Nat.reduceSub, Nat.reduceAdd, true_and, reduceCtorEq, false_and, false_or, or_false, exists_false, Nat.reduceLeDiff, Int.reduceLT, Int.reduceLE, Int.reduceNeg, decide_true, and_self, and_true, Int.toNat_natCast]
    exact ⟨_, rfl, _, rfl, by simpa using hl', hs'⟩
end Lw
namespace Lw
/-- a point of q moved at one place -/
theorem ins_set {q p : List Nat} (hl : q.length = p.length) {j b x : Nat} (h : ins q p = true) (hb : q[j]? = some b) (hx : b = 45 ∨ b = x) : ins q (p.set j x) = true := by
  rw [ins_iff (by rw [List.length_set]; exact hl)]
  intro i a y ha hy
  by_cases e : j = i
  · subst e
    rw [hb] at ha
    cases ha
    have hj : j < p.length := by have := (List.getElem?_eq_some_iff.mp hb).1; omega
    rw [List.getElem?_set_self hj] at hy
    cases hy
    exact hx
  · rw [List.getElem?_set_ne e] at hy
    exact (ins_iff hl).mp h i a y ha hy
theorem bits_set {p : List Nat} {j x : Nat} (h : ∀ y ∈ p, y ∈ [48, 49]) (hx : x = 48 ∨ x = 49) : ∀ y ∈ p.set j x, y ∈ [48, 49] := by
  intro y hy
  rcases List.mem_or_eq_of_mem_set hy with q | q
  · exact h y q
  · rw [q]; rcases hx with z | z <;> simp [z]
/-- a cube that does not lie in c: a place and a sign there that c does not let -/
theorem miss {c q : List Nat} (hl : c.length = q.length) (hc : IsC c) (hq : IsC q) (h : ins c q = false) : ∃ (j a b x : Nat), c[j]? = some a ∧ q[j]? = some b ∧ (x = 48 ∨ x = 49) ∧ (b = 45 ∨ b = x) ∧ a ≠ 45 ∧ a ≠ x := by
  have : ¬ ∀ (j : Nat) a b, c[j]? = some a → q[j]? = some b → a = 45 ∨ a = b := fun z => by rw [(ins_iff hl).mpr z] at h; cases h
  simp only [Classical.not_forall] at this
  obtain ⟨j, a, b, ha, hb, hn⟩ := this
  have h1 := hc a (List.mem_of_getElem? ha)
  have h2 := hq b (List.mem_of_getElem? hb)
  by_cases e : b = 45
  · rcases h1 with z | z | z
    · exact ⟨j, a, b, 49, ha, hb, .inr rfl, .inl e, by omega, by omega⟩
    · exact ⟨j, a, b, 48, ha, hb, .inl rfl, .inl e, by omega, by omega⟩
    · exact absurd (.inl z) hn
  · exact ⟨j, a, b, b, ha, hb, by omega, .inr rfl, by omega, by omega⟩
theorem not_ins {c p : List Nat} (hl : c.length = p.length) {j a x : Nat} (ha : c[j]? = some a) (hx : p[j]? = some x) (h1 : a ≠ 45) (h2 : a ≠ x) : ins c p = false := ins_no hl ha hx (by omega)
theorem inb_no {c d q p : List Nat} (hp : p.length = c.length) (h2 : ∀ y ∈ p, y ∈ [48, 49]) (h3 : ins q p = true) (h4 : ins c p = false) (h5 : ins d p = false) : inb c d q = false := by
  unfold inb
  rw [List.all_eq_false]
  exact ⟨p, strs_mem hp h2, by rw [h3, h4, h5]; simp⟩
theorem opc_vals {a b : Nat} (h : opc a b = true) : (a = 48 ∧ b = 49) ∨ (a = 49 ∧ b = 48) := by
  unfold opc at h
  simpa using h
theorem opc_no {a b : Nat} (ha : a = 48 ∨ a = 49 ∨ a = 45) (hb : b = 48 ∨ b = 49 ∨ b = 45) (h : opc a b = false) (h1 : a ≠ 45) (h2 : b ≠ 45) : a = b := by
  rcases ha with rfl | rfl | rfl <;> rcases hb with rfl | rfl | rfl <;> first | rfl | (exact absurd rfl h1) | (exact absurd rfl h2) | (exact absurd h (by decide))
section
variable {c d q : List Nat} (hl : c.length = d.length) (hq : q.length = c.length) (hc : IsC c) (hd : IsC d) (hqc : IsC q)
include hl hq hc hd hqc
/-- what lies in c or d, in none of them whole, lies in the consensus -/
theorem cons_whole (h : inb c d q = true) (h1 : ins c q = false) (h2 : ins d q = false) : ins (mg c d) q = true := by
  cases h3 : ins (mg c d) q with
  | true => rfl
  | false =>
    exfalso
    have hml := mg_len hl
    obtain ⟨p0, z1, z2, z3⟩ := fill hqc
    obtain ⟨j, t, b, x, ht, hb, hx, hbx, t1, t2⟩ := miss (by omega) (mg_isC hc hd) hqc h3
    have hj : j < q.length := (List.getElem?_eq_some_iff.mp hb).1
    obtain ⟨u, hu⟩ := get_ex (s := c) (k := j) (by omega)
    obtain ⟨v, hv⟩ := get_ex (s := d) (k := j) (by omega)
    rw [mg_get hu hv] at ht
    have ht : (if u = 45 then v else if v = 45 ∨ v = u then u else 45) = t := Option.some.inj ht
    have s1 := ins_set (by omega) z3 hb hbx
    have b1 := bits_set (j := j) z2 hx
    have pj : (p0.set j x)[j]? = some x := List.getElem?_set_self (by omega)
    have hpl : (p0.set j x).length = c.length := by rw [List.length_set]; omega
    -- x is not let by c or not by d
    have key : ∀ (c' d' : List Nat), c'.length = c.length → d'.length = c.length → IsC d' → ins d' q = false → (∀ (w : Nat), d'[j]? = some w → w ≠ 45 → w ≠ x) → ins c' (p0.set j x) = false → (∀ (i y : Nat), i ≠ j → ins c' ((p0.set j x).set i y) = false) → ∃ p : List Nat, p.length = c.length ∧ (∀ y ∈ p, y ∈ [48, 49]) ∧ ins q p = true ∧ ins c' p = false ∧ ins d' p = false := by
      intro c' d' hcl hdl hdc hdq hw hc1 hc2
      obtain ⟨i, a, b', y, ha, hb', hy, hby, a1, a2⟩ := miss (by omega) hdc hqc hdq
      by_cases e : i = j
      · subst e
        exact ⟨p0.set i x, hpl, b1, s1, hc1, not_ins (by omega) ha pj a1 (hw a ha a1)⟩
      · refine ⟨(p0.set j x).set i y, by rw [List.length_set]; exact hpl, bits_set b1 hy, ins_set (by omega) s1 hb' hby, hc2 i y e, ?_⟩
        have hi : i < d'.length := (List.getElem?_eq_some_iff.mp ha).1
        exact not_ins (by rw [List.length_set]; omega) ha (List.getElem?_set_self (by omega)) a1 a2
    have fails : ∀ (c' : List Nat) (w : Nat), c'.length = c.length → c'[j]? = some w → w ≠ 45 → w ≠ x → ins c' (p0.set j x) = false ∧ ∀ (i y : Nat), i ≠ j → ins c' ((p0.set j x).set i y) = false := by
      intro c' w hcl hw w1 w2
      refine ⟨not_ins (by omega) hw pj w1 w2, fun i y e => not_ins (by rw [List.length_set]; omega) hw ?_ w1 w2⟩
      rw [List.getElem?_set_ne e, pj]
    have hun := hc u (List.mem_of_getElem? hu)
    have hvn := hd v (List.mem_of_getElem? hv)
    -- where both have a sign, it is the same one
    have same : u ≠ 45 → v ≠ 45 → u = v := by
      intro u1 v1
      rw [if_neg u1] at ht
      by_cases e : v = u
      · exact e.symm
      · rw [if_neg (by omega)] at ht
        omega
    by_cases u1 : u = 45
    · rw [if_pos u1] at ht
      subst ht
      obtain ⟨f1, f2⟩ := fails d v (by omega) hv t1 t2
      obtain ⟨p, k1, k2, k3, k4, k5⟩ := key d c (by omega) rfl hc h1 (fun w hw w1 => by rw [hu] at hw; cases hw; exact absurd u1 w1) f1 f2
      rw [inb_no k1 k2 k3 k5 k4] at h
      cases h
    · have ux : u ≠ x := by
        rw [if_neg u1] at ht
        split at ht
        · rw [ht]; exact t2
        · omega
      obtain ⟨f1, f2⟩ := fails c u rfl hu u1 ux
      obtain ⟨p, k1, k2, k3, k4, k5⟩ := key c d rfl (by omega) hd h2 (fun w hw w1 => by rw [hv] at hw; cases hw; rw [← same u1 w1]; exact ux) f1 f2
      rw [inb_no k1 k2 k3 k4 k5] at h
      cases h
end
/-- the points of the consensus lie in c or d -/
theorem cons_in {c d : List Nat} (hl : c.length = d.length) (hc : IsC c) (hd : IsC d) (h : (ops c d).length = 1) : inb c d (mg c d) = true := by
  unfold inb
  rw [List.all_eq_true]
  intro p hp
  have hpl := strs_len hp
  have hpx := pt_strs hp
  have hml := mg_len hl
  cases h1 : ins (mg c d) p with
  | false => simp
  | true =>
    cases h2 : ins c p with
    | true => simp
    | false =>
      cases h3 : ins d p with
      | true => simp
      | false =>
        exfalso
        have pt : ∀ (j u v x : Nat), c[j]? = some u → d[j]? = some v → p[j]? = some x → opc u v = false → (u = 45 ∨ u = x) ∧ (v = 45 ∨ v = x) := fun j u v x hu hv hx ho =>
          (mg_one (hc u (List.mem_of_getElem? hu)) (hd v (List.mem_of_getElem? hv)) (hpx x (List.mem_of_getElem? hx)) ho).mp ((ins_iff (by omega)).mp h1 j _ _ (mg_get hu hv) hx)
        have bad : ∀ (c' : List Nat), c'.length = c.length → ins c' p = false → ∃ (j a x : Nat), c'[j]? = some a ∧ p[j]? = some x ∧ a ≠ 45 ∧ a ≠ x := by
          intro c' hcl hn
          have : ¬ ∀ (j : Nat) a b, c'[j]? = some a → p[j]? = some b → a = 45 ∨ a = b := fun z => by rw [(ins_iff (by omega)).mpr z] at hn; cases hn
          simp only [Classical.not_forall] at this
          obtain ⟨j, a, b, ha, hb, hn⟩ := this
          exact ⟨j, a, b, ha, hb, by omega, by omega⟩
        obtain ⟨j, u, x, hu, hx, u1, u2⟩ := bad c rfl h2
        obtain ⟨i, v, y, hv, hy, v1, v2⟩ := bad d (by omega) h3
        have hj : j < c.length := (List.getElem?_eq_some_iff.mp hu).1
        have hi : i < d.length := (List.getElem?_eq_some_iff.mp hv).1
        obtain ⟨v', hv'⟩ := get_ex (s := d) (k := j) (by omega)
        obtain ⟨u', hu'⟩ := get_ex (s := c) (k := i) (by omega)
        have o1 : opc u v' = true := by
          cases z : opc u v' with
          | true => rfl
          | false => have := (pt j u v' x hu hv' hx z).1; omega
        have o2 : opc u' v = true := by
          cases z : opc u' v with
          | true => rfl
          | false => have := (pt i u' v y hu' hv hy z).2; omega
        have m1 : j ∈ ops c d := by
          unfold ops
          rw [List.mem_filter, List.getD_eq_getElem?_getD, List.getD_eq_getElem?_getD, hu, hv']
          exact ⟨List.mem_range.mpr hj, o1⟩
        have m2 : i ∈ ops c d := by
          unfold ops
          rw [List.mem_filter, List.getD_eq_getElem?_getD, List.getD_eq_getElem?_getD, hu', hv]
          exact ⟨List.mem_range.mpr (by omega), o2⟩
        obtain ⟨w, hw⟩ := List.length_eq_one_iff.mp h
        rw [hw] at m1 m2
        have e1 : j = w := by simpa using m1
        have e2 : i = w := by simpa using m2
        have e : i = j := by omega
        subst e
        rw [hv] at hv'
        cases hv'
        rw [hx] at hy
        cases hy
        have hxx := hpx x (List.mem_of_getElem? hx)
        have := opc_vals o1
        omega
theorem isC_strs {m : Nat} {p : List Nat} (h : p ∈ strsOf m [45, 48, 49]) : IsC p := by
  intro x hx
  have := strs_in h x hx
  simp at this
  omega
def rops (c d : List Nat) : D → Option D
  | .int k => if opc (c.getD k.toNat 0) (d.getD k.toNat 0) then some (.int k) else none
  | _ => none
theorem r_right (n : Nat) (c d : List Nat) (hl : c.length = d.length) (h1 : 1 ≤ c.length) (hs : c.length ≤ 4) (hc : IsC c) (hd : IsC d) : OI.run gcs tab (n + 3) 15 [.str c, .str d, if (ops c d).length = 1 then .str (mg c d) else .non] = some (.ok (.bl true)) := by
  obtain ⟨v, hv, o, rfl⟩ := r_strings (n + 1) c.length [45, 48, 49] hs (by decide)
  have hml := mg_len hl
  have hmc := mg_isC hc hd
  have turn : ∀ (o2 o4 o5 o7 : Option D), ∀ x ∈ (List.range c.length).map fun (k : Nat) => D.int k, Sat (lcB gcs (OI.run gcs tab (n + 2)) [6] false true (.p2 .inn (.p2 .add (.p2 .idx (.pk 0) (.pk 6)) (.p2 .idx (.pk 1) (.pk 6))) (.lstE (.cons (.cst (.str [48, 49])) (.cons (.cst (.str [49, 48])) .nil)))) (.var 6) x [some (.str c), some (.str d), o2, some (.int c.length), o4, o5, none, o7]) fun o e1 => o = rops c d x ∧ e1 = [some (.str c), some (.str d), o2, some (.int c.length), o4, o5, none, o7] := by
    intro o2 o4 o5 o7 x hx
    obtain ⟨k, hk, rfl⟩ := List.mem_map.mp hx
    have hk : k < c.length := by simpa using hk
    obtain ⟨a, ha⟩ := get_ex (s := c) (k := k) (by omega)
    obtain ⟨b, hb⟩ := get_ex (s := d) (k := k) (by omega)
    have e1 : rops c d (.int k) = if opc a b then some (.int k) else none := by
      show (if opc (c.getD k 0) (d.getD k 0) then _ else _) = _
      rw [List.getD_eq_getElem?_getD, List.getD_eq_getElem?_getD, ha, hb]
      rfl
    simp (config := {maxSteps := 4000000}) only [q_is_bb, q_nn_bb, q_eq_ns, q_eq_sn, q_eq_nn, q_ne_ns, q_ne_sn, q_ne_nn, q_in_t, q_in_l, q_nin_l, inL_strs, vB_some_, vNB_some_, ↓Xx_lc, ↓Xt_lc, ↓kLc_eq, ↓kLcR_eq, ↓kLe_d, ↓kLqb_eq, ↓kLq_eq, ↓lc_1, ↓lc_10, ↓lc_2, ↓lc_20, wipe_0, wipe_s, ↓kR2_eq, ↓kR2b_eq, ↓kR2c_eq, ↓kR2d_eq, ↓Xi_rng2, ↓kN_nx, ↓kN_rt, ↓kN_bk, ↓kN_ct, ↓Xy_skip, ↓Xy_seq, ↓kD_eq, ↓Xx_cst, ↓Xx_gc, ↓kV_eq, ↓Xx_var, ↓kM_eq, ↓Xx_mov, ↓kP_eq, ↓Xx_pk, ↓k1b_eq, ↓k1_eq, ↓Xx_p1, ↓k2d_eq, ↓k2c_eq, ↓k2b_eq, ↓k2_eq, ↓Xx_p2, ↓kIb_eq, ↓kI_eq, ↓Xx_isi, ↓kSd_eq, ↓kSc_eq, ↓kSb_eq, ↓kS_eq, ↓Xx_slc, ↓Xx_noE, ↓kOb_eq, ↓kO_eq, ↓Xx_so, ↓kTb_eq, ↓kT_eq, ↓Xx_tup, ↓kLb_eq, ↓kL_eq, ↓Xx_lst, ↓kCb_eq, ↓kC_eq, ↓Xx_call, ↓Xx_nil, ↓kAb_eq, ↓kA_eq, ↓Xx_cons, ↓Xx_one, ↓kAnb_eq, ↓kAn_eq, ↓Xx_and, ↓kOrb_eq, ↓kOr_eq, ↓Xx_or, ↓kNob_eq, ↓kNo_eq, ↓Xx_not, ↓kIfb_eq, ↓kIf_eq, ↓Xx_if, ↓kTrb_eq, ↓kTr_eq, ↓Xt_cst, ↓Xt_var, ↓Xt_pk, ↓Xt_p1, ↓Xt_p2, ↓Xt_isi, ↓Xt_call, ↓Xt_slc, ↓kE_eq, ↓kIv_d, ↓Xi_val, ↓kRb_eq, ↓kR_eq, ↓Xi_rng1, ↓kEnb_eq, ↓kEn_d, ↓Xi_enu, ↓kAs_d, ↓Xy_asg, ↓kApc_eq, ↓kApb_d, ↓kAp_eq, ↓Xy_app, ↓kX_eq, ↓Xy_ex, ↓kRt_d, ↓Xy_ret, ↓Xy_retN, ↓kItb_eq, ↓kIt_eq, ↓Xy_ite, ↓kF_eq, ↓Xy_for1, ↓kFT_eq, ↓Xy_forT, sl_zero, sl_succ, sd_some, sp_some, sp_if, sp_ifn, sb_some, sf_some, si_some, si_if, sint_some, so_some, res_d, res_pk, tv_t_d, tv_f, resL_nil, resL_cons, fz_d, fz_p, q_neg, q_len_s, q_len_l, q_len_t, q_int, q_int_b, q_add, q_add_s, q_sub, q_mul, q_fdiv, q_mod, q_pow, q_lt, q_le, q_gt, q_ge, q_eq_i, q_eq_s, q_eq_b, q_ne_i, q_ne_s, q_ne_b, q_in_s, q_nin_s, q_is_n, q_is_i, q_is_s, q_is_l, q_is_t, q_nn_n, q_nn_i, q_nn_s, q_nn_l, q_nn_t, q_idx_l, q_idx_t, q_idx_s, q_sl_l, q_sl_s, shr_i, shr_b, shr_s, shr_n, shr_l, own_l, own_t, own_i, own_s, own_b, own_n, ownL_nil, ownL_cons, frz_l0, frz_l1, frz_t, frz_i, frz_s, frz_b, frz_n, frzL_nil, frzL_cons, at_0, at_1, at_2, disp_eq, it_l0, it_t, it_s, eno_s, eno_l, ty_ii, ty_ib, ty_is, ty_ss, ty_si, ty_bb, ty_bi, ty_ll, ty_tt, tr_b, tr_i, tr_l, dat_v, dat_l, dat_t, Option.bind_some, Option.map_some, Bool.or_false, Bool.false_or, Bool.true_and, List.set_cons_zero, List.set_cons_succ, if_true, if_false, Bool.false_eq_true, Bool.not_true, Bool.not_false, ↓reduceIte, List.map_cons, List.map_nil, List.cons_append, List.nil_append, List.replicate_succ, List.replicate_zero, List.length_cons, List.length_nil, Nat.reduceSub, Nat.reduceAdd, true_and, reduceCtorEq, false_and, false_or, or_false, exists_false, Nat.reduceLeDiff, Int.reduceLT, Int.reduceLE, Int.reduceNeg, decide_true, and_self, and_true, Int.toNat_natCast, at_nat ha, at_nat hb, in01, e1]
    refine ⟨line_le (by simp), ?_⟩
    cases opc a b <;> simp
  have e2 : ((List.range c.length).map fun (k : Nat) => D.int k).filterMap (rops c d) = (ops c d).map fun (k : Nat) => D.int k := by
    rw [List.filterMap_map]
    have e : rops c d ∘ (fun (k : Nat) => D.int k) = fun k => if opc (c.getD k 0) (d.getD k 0) then some (D.int k) else none := by
      funext k
      rfl
    rw [e, fm_filter]
    rfl
  by_cases q : (ops c d).length = 1
  · rw [if_pos q]
    have hmem : mg c d ∈ strsOf c.length [45, 48, 49] := strs_mem (by omega) fun x hx => by
      rcases hmc x hx with z | z | z <;> simp [z]
    have hin := cons_in hl hc hd q
    refine run_rt (d := d15) rfl rfl ?_
    cases o <;> simp (config := {maxSteps := 4000000}) only [q_is_bb, q_nn_bb, q_eq_ns, q_eq_sn, q_eq_nn, q_ne_ns, q_ne_sn, q_ne_nn, q_in_t, q_in_l, q_nin_l, inL_strs, vB_some_, vNB_some_, ↓Xx_lc, ↓Xt_lc, ↓kLc_eq, ↓kLcR_eq, ↓kLe_d, ↓kLqb_eq, ↓kLq_eq, ↓lc_1, ↓lc_10, ↓lc_2, ↓lc_20, wipe_0, wipe_s, ↓kR2_eq, ↓kR2b_eq, ↓kR2c_eq, ↓kR2d_eq, ↓Xi_rng2, ↓kN_nx, ↓kN_rt, ↓kN_bk, ↓kN_ct, ↓Xy_skip, ↓Xy_seq, ↓kD_eq, ↓Xx_cst, ↓Xx_gc, ↓kV_eq, ↓Xx_var, ↓kM_eq, ↓Xx_mov, ↓kP_eq, ↓Xx_pk, ↓k1b_eq, ↓k1_eq, ↓Xx_p1, ↓k2d_eq, ↓k2c_eq, ↓k2b_eq, ↓k2_eq, ↓Xx_p2, ↓kIb_eq, ↓kI_eq, ↓Xx_isi, ↓kSd_eq, ↓kSc_eq, ↓kSb_eq, ↓kS_eq, ↓Xx_slc, ↓Xx_noE, ↓kOb_eq, ↓kO_eq, ↓Xx_so, ↓kTb_eq, ↓kT_eq, ↓Xx_tup, ↓kLb_eq, ↓kL_eq, ↓Xx_lst, ↓kCb_eq, ↓kC_eq, ↓Xx_call, ↓Xx_nil, ↓kAb_eq, ↓kA_eq, ↓Xx_cons, ↓Xx_one, ↓kAnb_eq, ↓kAn_eq, ↓Xx_and, ↓kOrb_eq, ↓kOr_eq, ↓Xx_or, ↓kNob_eq, ↓kNo_eq, ↓Xx_not, ↓kIfb_eq, ↓kIf_eq, ↓Xx_if, ↓kTrb_eq, ↓kTr_eq, ↓Xt_cst, ↓Xt_var, ↓Xt_pk, ↓Xt_p1, ↓Xt_p2, ↓Xt_isi, ↓Xt_call, ↓Xt_slc, ↓kE_eq, ↓kIv_d, ↓Xi_val, ↓kRb_eq, ↓kR_eq, ↓Xi_rng1, ↓kEnb_eq, ↓kEn_d, ↓Xi_enu, ↓kAs_d, ↓Xy_asg, ↓kApc_eq, ↓kApb_d, ↓kAp_eq, ↓Xy_app, ↓kX_eq, ↓Xy_ex, ↓kRt_d, ↓Xy_ret, ↓Xy_retN, ↓kItb_eq, ↓kIt_eq, ↓Xy_ite, ↓kF_eq, ↓Xy_for1, ↓kFT_eq, ↓Xy_forT, sl_zero, sl_succ, sd_some, sp_some, sp_if, sp_ifn, sb_some, sf_some, si_some, si_if, sint_some, so_some, res_d, res_pk, tv_t_d, tv_f, resL_nil, resL_cons, fz_d, fz_p, q_neg, q_len_s, q_len_l, q_len_t, q_int, q_int_b, q_add, q_add_s, q_sub, q_mul, q_fdiv, q_mod, q_pow, q_lt, q_le, q_gt, q_ge, q_eq_i, q_eq_s, q_eq_b, q_ne_i, q_ne_s, q_ne_b, q_in_s, q_nin_s, q_is_n, q_is_i, q_is_s, q_is_l, q_is_t, q_nn_n, q_nn_i, q_nn_s, q_nn_l, q_nn_t, q_idx_l, q_idx_t, q_idx_s, q_sl_l, q_sl_s, shr_i, shr_b, shr_s, shr_n, shr_l, own_l, own_t, own_i, own_s, own_b, own_n, ownL_nil, ownL_cons, frz_l0, frz_l1, frz_t, frz_i, frz_s, frz_b, frz_n, frzL_nil, frzL_cons, at_0, at_1, at_2, disp_eq, it_l0, it_t, it_s, eno_s, eno_l, ty_ii, ty_ib, ty_is, ty_ss, ty_si, ty_bb, ty_bi, ty_ll, ty_tt, tr_b, tr_i, tr_l, dat_v, dat_l, dat_t, Option.bind_some, Option.map_some, Bool.or_false, Bool.false_or, Bool.true_and, List.set_cons_zero, List.set_cons_succ, if_true, if_false, Bool.false_eq_true, Bool.not_true, Bool.not_false, ↓reduceIte, List.map_cons, List.map_nil, List.cons_append, List.nil_append, List.replicate_succ, List.replicate_zero, List.length_cons, List.length_nil, Nat.reduceSub, Nat.reduceAdd, true_and, reduceCtorEq, false_and, false_or, or_false, exists_false, Nat.reduceLeDiff, Int.reduceLT, Int.reduceLE, Int.reduceNeg, decide_true, and_self, and_true, Int.toNat_natCast, d15, c15, hv, own_strs, frz_strs]
    all_goals
      refine ⟨⟨by omega, by omega⟩, comp_sat (rops c d) (turn _ _ _ _) (by simp; omega) ?_⟩
      rw [e2]
      simp (config := {maxSteps := 4000000}) only [q_is_bb, q_nn_bb, q_eq_ns, q_eq_sn, q_eq_nn, q_ne_ns, q_ne_sn, q_ne_nn, q_in_t, q_in_l, q_nin_l, inL_strs, vB_some_, vNB_some_, ↓Xx_lc, ↓Xt_lc, ↓kLc_eq, ↓kLcR_eq, ↓kLe_d, ↓kLqb_eq, ↓kLq_eq, ↓lc_1, ↓lc_10, ↓lc_2, ↓lc_20, wipe_0, wipe_s, ↓kR2_eq, ↓kR2b_eq, ↓kR2c_eq, ↓kR2d_eq, ↓Xi_rng2, ↓kN_nx, ↓kN_rt, ↓kN_bk, ↓kN_ct, ↓Xy_skip, ↓Xy_seq, ↓kD_eq, ↓Xx_cst, ↓Xx_gc, ↓kV_eq, ↓Xx_var, ↓kM_eq, ↓Xx_mov, ↓kP_eq, ↓Xx_pk, ↓k1b_eq, ↓k1_eq, ↓Xx_p1, ↓k2d_eq, ↓k2c_eq, ↓k2b_eq, ↓k2_eq, ↓Xx_p2, ↓kIb_eq, ↓kI_eq, ↓Xx_isi, ↓kSd_eq, ↓kSc_eq, ↓kSb_eq, ↓kS_eq, ↓Xx_slc, ↓Xx_noE, ↓kOb_eq, ↓kO_eq, ↓Xx_so, ↓kTb_eq, ↓kT_eq, ↓Xx_tup, ↓kLb_eq, ↓kL_eq, ↓Xx_lst, ↓kCb_eq, ↓kC_eq, ↓Xx_call, ↓Xx_nil, ↓kAb_eq, ↓kA_eq, ↓Xx_cons, ↓Xx_one, ↓kAnb_eq, ↓kAn_eq, ↓Xx_and, ↓kOrb_eq, ↓kOr_eq, ↓Xx_or, ↓kNob_eq, ↓kNo_eq, ↓Xx_not, ↓kIfb_eq, ↓kIf_eq, ↓Xx_if, ↓kTrb_eq, ↓kTr_eq, ↓Xt_cst, ↓Xt_var, ↓Xt_pk, ↓Xt_p1, ↓Xt_p2, ↓Xt_isi, ↓Xt_call, ↓Xt_slc, ↓kE_eq, ↓kIv_d, ↓Xi_val, ↓kRb_eq, ↓kR_eq, ↓Xi_rng1, ↓kEnb_eq, ↓kEn_d, ↓Xi_enu, ↓kAs_d, ↓Xy_asg, ↓kApc_eq, ↓kApb_d, ↓kAp_eq, ↓Xy_app, ↓kX_eq, ↓Xy_ex, ↓kRt_d, ↓Xy_ret, ↓Xy_retN, ↓kItb_eq, ↓kIt_eq, ↓Xy_ite, ↓kF_eq, ↓Xy_for1, ↓kFT_eq, ↓Xy_forT, sl_zero, sl_succ, sd_some, sp_some, sp_if, sp_ifn, sb_some, sf_some, si_some, si_if, sint_some, so_some, res_d, res_pk, tv_t_d, tv_f, resL_nil, resL_cons, fz_d, fz_p, q_neg, q_len_s, q_len_l, q_len_t, q_int, q_int_b, q_add, q_add_s, q_sub, q_mul, q_fdiv, q_mod, q_pow, q_lt, q_le, q_gt, q_ge, q_eq_i, q_eq_s, q_eq_b, q_ne_i, q_ne_s, q_ne_b, q_in_s, q_nin_s, q_is_n, q_is_i, q_is_s, q_is_l, q_is_t, q_nn_n, q_nn_i, q_nn_s, q_nn_l, q_nn_t, q_idx_l, q_idx_t, q_idx_s, q_sl_l, q_sl_s, shr_i, shr_b, shr_s, shr_n, shr_l, own_l, own_t, own_i, own_s, own_b, own_n, ownL_nil, ownL_cons, frz_l0, frz_l1, frz_t, frz_i, frz_s, frz_b, frz_n, frzL_nil, frzL_cons, at_0, at_1, at_2, disp_eq, it_l0, it_t, it_s, eno_s, eno_l, ty_ii, ty_ib, ty_is, ty_ss, ty_si, ty_bb, ty_bi, ty_ll, ty_tt, tr_b, tr_i, tr_l, dat_v, dat_l, dat_t, Option.bind_some, Option.map_some, Bool.or_false, Bool.false_or, Bool.true_and, List.set_cons_zero, List.set_cons_succ, if_true, if_false, Bool.false_eq_true, Bool.not_true, Bool.not_false, ↓reduceIte, List.map_cons, List.map_nil, List.cons_append, List.nil_append, List.replicate_succ, List.replicate_zero, List.length_cons, List.length_nil, Nat.reduceSub, Nat.reduceAdd, true_and, reduceCtorEq, false_and, false_or, or_false, exists_false, Nat.reduceLeDiff, Int.reduceLT, Int.reduceLE, Int.reduceNeg, decide_true, and_self, and_true, Int.toNat_natCast, List.length_map, q, (show ((1 : Nat) : Int) = 1 from rfl), hmem, r_inboth n c d (mg c d) hl hml hs, hin, own_strs, frz_strs]
      refine for_inv (fun i e => ∃ o7, e = [_, _, some (.str (mg c d)), _, _, _, _, o7]) ⟨_, rfl⟩ ?_ ?_
      · rintro j x e hx ⟨o7, rfl⟩
        obtain ⟨p, hp, rfl⟩ := map_get hx
        have hp := List.mem_of_getElem? hp
        have hpl := strs_len hp
        have hpc := isC_strs hp
        rw [lp1_eq]
        simp (config := {maxSteps := 4000000}) only [q_is_bb, q_nn_bb, q_eq_ns, q_eq_sn, q_eq_nn, q_ne_ns, q_ne_sn, q_ne_nn, q_in_t, q_in_l, q_nin_l, inL_strs, vB_some_, vNB_some_, ↓Xx_lc, ↓Xt_lc, ↓kLc_eq, ↓kLcR_eq, ↓kLe_d, ↓kLqb_eq, ↓kLq_eq, ↓lc_1, ↓lc_10, ↓lc_2, ↓lc_20, wipe_0, wipe_s, ↓kR2_eq, ↓kR2b_eq, ↓kR2c_eq, ↓kR2d_eq, ↓Xi_rng2, ↓kN_nx, ↓kN_rt, ↓kN_bk, ↓kN_ct, ↓Xy_skip, ↓Xy_seq, ↓kD_eq, ↓Xx_cst, ↓Xx_gc, ↓kV_eq, ↓Xx_var, ↓kM_eq, ↓Xx_mov, ↓kP_eq, ↓Xx_pk, ↓k1b_eq, ↓k1_eq, ↓Xx_p1, ↓k2d_eq, ↓k2c_eq, ↓k2b_eq, ↓k2_eq, ↓Xx_p2, ↓kIb_eq, ↓kI_eq, ↓Xx_isi, ↓kSd_eq, ↓kSc_eq, ↓kSb_eq, ↓kS_eq, ↓Xx_slc, ↓Xx_noE, ↓kOb_eq, ↓kO_eq, ↓Xx_so, ↓kTb_eq, ↓kT_eq, ↓Xx_tup, ↓kLb_eq, ↓kL_eq, ↓Xx_lst, ↓kCb_eq, ↓kC_eq, ↓Xx_call, ↓Xx_nil, ↓kAb_eq, ↓kA_eq, ↓Xx_cons, ↓Xx_one, ↓kAnb_eq, ↓kAn_eq, ↓Xx_and, ↓kOrb_eq, ↓kOr_eq, ↓Xx_or, ↓kNob_eq, ↓kNo_eq, ↓Xx_not, ↓kIfb_eq, ↓kIf_eq, ↓Xx_if, ↓kTrb_eq, ↓kTr_eq, ↓Xt_cst, ↓Xt_var, ↓Xt_pk, ↓Xt_p1, ↓Xt_p2, ↓Xt_isi, ↓Xt_call, ↓Xt_slc, ↓kE_eq, ↓kIv_d, ↓Xi_val, ↓kRb_eq, ↓kR_eq, ↓Xi_rng1, ↓kEnb_eq, ↓kEn_d, ↓Xi_enu, ↓kAs_d, ↓Xy_asg, ↓kApc_eq, ↓kApb_d, ↓kAp_eq, ↓Xy_app, ↓kX_eq, ↓Xy_ex, ↓kRt_d, ↓Xy_ret, ↓Xy_retN, ↓kItb_eq, ↓kIt_eq, ↓Xy_ite, ↓kF_eq, ↓Xy_for1, ↓kFT_eq, ↓Xy_forT, sl_zero, sl_succ, sd_some, sp_some, sp_if, sp_ifn, sb_some, sf_some, si_some, si_if, sint_some, so_some, res_d, res_pk, tv_t_d, tv_f, resL_nil, resL_cons, fz_d, fz_p, q_neg, q_len_s, q_len_l, q_len_t, q_int, q_int_b, q_add, q_add_s, q_sub, q_mul, q_fdiv, q_mod, q_pow, q_lt, q_le, q_gt, q_ge, q_eq_i, q_eq_s, q_eq_b, q_ne_i, q_ne_s, q_ne_b, q_in_s, q_nin_s, q_is_n, q_is_i, q_is_s, q_is_l, q_is_t, q_nn_n, q_nn_i, q_nn_s, q_nn_l, q_nn_t, q_idx_l, q_idx_t, q_idx_s, q_sl_l, q_sl_s, shr_i, shr_b, shr_s, shr_n, shr_l, own_l, own_t, own_i, own_s, own_b, own_n, ownL_nil, ownL_cons, frz_l0, frz_l1, frz_t, frz_i, frz_s, frz_b, frz_n, frzL_nil, frzL_cons, at_0, at_1, at_2, disp_eq, it_l0, it_t, it_s, eno_s, eno_l, ty_ii, ty_ib, ty_is, ty_ss, ty_si, ty_bb, ty_bi, ty_ll, ty_tt, tr_b, tr_i, tr_l, dat_v, dat_l, dat_t, Option.bind_some, Option.map_some, Bool.or_false, Bool.false_or, Bool.true_and, List.set_cons_zero, List.set_cons_succ, if_true, if_false, Bool.false_eq_true, Bool.not_true, Bool.not_false, ↓reduceIte, List.map_cons, List.map_nil, List.cons_append, List.nil_append, List.replicate_succ, List.replicate_zero, List.length_cons, List.length_nil, Nat.reduceSub, Nat.reduceAdd, true_and, reduceCtorEq, false_and, false_or, or_false, exists_false, Nat.reduceLeDiff, Int.reduceLT, Int.reduceLE, Int.reduceNeg, decide_true, and_self, and_true, Int.toNat_natCast, r_inboth n c d p hl hpl hs, r_in (n + 1) c p (by omega) (by omega), r_in (n + 1) d p (by omega) (by omega), r_in (n + 1) (mg c d) p (by omega) (by omega)]
        cases k1 : inb c d p with
        | false => simp (config := {maxSteps := 4000000}) only [q_is_bb, q_nn_bb, q_eq_ns, q_eq_sn, q_eq_nn, q_ne_ns, q_ne_sn, q_ne_nn, q_in_t, q_in_l, q_nin_l, inL_strs, vB_some_, vNB_some_, ↓Xx_lc, ↓Xt_lc, ↓kLc_eq, ↓kLcR_eq, ↓kLe_d, ↓kLqb_eq, ↓kLq_eq, ↓lc_1, ↓lc_10, ↓lc_2, ↓lc_20, wipe_0, wipe_s, ↓kR2_eq, ↓kR2b_eq, ↓kR2c_eq, ↓kR2d_eq, ↓Xi_rng2, ↓kN_nx, ↓kN_rt, ↓kN_bk, ↓kN_ct, ↓Xy_skip, ↓Xy_seq, ↓kD_eq, ↓Xx_cst, ↓Xx_gc, ↓kV_eq, ↓Xx_var, ↓kM_eq, ↓Xx_mov, ↓kP_eq, ↓Xx_pk, ↓k1b_eq, ↓k1_eq, ↓Xx_p1, ↓k2d_eq, ↓k2c_eq, ↓k2b_eq, ↓k2_eq, ↓Xx_p2, ↓kIb_eq, ↓kI_eq, ↓Xx_isi, ↓kSd_eq, ↓kSc_eq, ↓kSb_eq, ↓kS_eq, ↓Xx_slc, ↓Xx_noE, ↓kOb_eq, ↓kO_eq, ↓Xx_so, ↓kTb_eq, ↓kT_eq, ↓Xx_tup, ↓kLb_eq, ↓kL_eq, ↓Xx_lst, ↓kCb_eq, ↓kC_eq, ↓Xx_call, ↓Xx_nil, ↓kAb_eq, ↓kA_eq, ↓Xx_cons, ↓Xx_one, ↓kAnb_eq, ↓kAn_eq, ↓Xx_and, ↓kOrb_eq, ↓kOr_eq, ↓Xx_or, ↓kNob_eq, ↓kNo_eq, ↓Xx_not, ↓kIfb_eq, ↓kIf_eq, ↓Xx_if, ↓kTrb_eq, ↓kTr_eq, ↓Xt_cst, ↓Xt_var, ↓Xt_pk, ↓Xt_p1, ↓Xt_p2, ↓Xt_isi, ↓Xt_call, ↓Xt_slc, ↓kE_eq, ↓kIv_d, ↓Xi_val, ↓kRb_eq, ↓kR_eq, ↓Xi_rng1, ↓kEnb_eq, ↓kEn_d, ↓Xi_enu, ↓kAs_d, ↓Xy_asg, ↓kApc_eq, ↓kApb_d, ↓kAp_eq, ↓Xy_app, ↓kX_eq, ↓Xy_ex, ↓kRt_d, ↓Xy_ret, ↓Xy_retN, ↓kItb_eq, ↓kIt_eq, ↓Xy_ite, ↓kF_eq, ↓Xy_for1, ↓kFT_eq, ↓Xy_forT, sl_zero, sl_succ, sd_some, sp_some, sp_if, sp_ifn, sb_some, sf_some, si_some, si_if, sint_some, so_some, res_d, res_pk, tv_t_d, tv_f, resL_nil, resL_cons, fz_d, fz_p, q_neg, q_len_s, q_len_l, q_len_t, q_int, q_int_b, q_add, q_add_s, q_sub, q_mul, q_fdiv, q_mod, q_pow, q_lt, q_le, q_gt, q_ge, q_eq_i, q_eq_s, q_eq_b, q_ne_i, q_ne_s, q_ne_b, q_in_s, q_nin_s, q_is_n, q_is_i, q_is_s, q_is_l, q_is_t, q_nn_n, q_nn_i, q_nn_s, q_nn_l, q_nn_t, q_idx_l, q_idx_t, q_idx_s, q_sl_l, q_sl_s, shr_i, shr_b, shr_s, shr_n, shr_l, own_l, own_t, own_i, own_s, own_b, own_n, ownL_nil, ownL_cons, frz_l0, frz_l1, frz_t, frz_i, frz_s, frz_b, frz_n, frzL_nil, frzL_cons, at_0, at_1, at_2, disp_eq, it_l0, it_t, it_s, eno_s, eno_l, ty_ii, ty_ib, ty_is, ty_ss, ty_si, ty_bb, ty_bi, ty_ll, ty_tt, tr_b, tr_i, tr_l, dat_v, dat_l, dat_t, Option.bind_some, Option.map_some, Bool.or_false, Bool.false_or, Bool.true_and, List.set_cons_zero, List.set_cons_succ, if_true, if_false, Bool.false_eq_true, Bool.not_true, Bool.not_false, ↓reduceIte, List.map_cons, List.map_nil, List.cons_append, List.nil_append, List.replicate_succ, List.replicate_zero, List.length_cons, List.length_nil, Nat.reduceSub, Nat.reduceAdd, true_and, reduceCtorEq, false_and, false_or, or_false, exists_false, Nat.reduceLeDiff, Int.reduceLT, Int.reduceLE, Int.reduceNeg, decide_true, and_self, and_true, Int.toNat_natCast]; exact ⟨_, rfl⟩
        | true =>
          cases k2 : ins c p with
          | true => simp (config := {maxSteps := 4000000}) only [q_is_bb, q_nn_bb, q_eq_ns, q_eq_sn, q_eq_nn, q_ne_ns, q_ne_sn, q_ne_nn, q_in_t, q_in_l, q_nin_l, inL_strs, vB_some_, vNB_some_, ↓Xx_lc, ↓Xt_lc, ↓kLc_eq, ↓kLcR_eq, ↓kLe_d, ↓kLqb_eq, ↓kLq_eq, ↓lc_1, ↓lc_10, ↓lc_2, ↓lc_20, wipe_0, wipe_s, ↓kR2_eq, ↓kR2b_eq, ↓kR2c_eq, ↓kR2d_eq, ↓Xi_rng2, ↓kN_nx, ↓kN_rt, ↓kN_bk, ↓kN_ct, ↓Xy_skip, ↓Xy_seq, ↓kD_eq, ↓Xx_cst, ↓Xx_gc, ↓kV_eq, ↓Xx_var, ↓kM_eq, ↓Xx_mov, ↓kP_eq, ↓Xx_pk, ↓k1b_eq, ↓k1_eq, ↓Xx_p1, ↓k2d_eq, ↓k2c_eq, ↓k2b_eq, ↓k2_eq, ↓Xx_p2, ↓kIb_eq, ↓kI_eq, ↓Xx_isi, ↓kSd_eq, ↓kSc_eq, ↓kSb_eq, ↓kS_eq, ↓Xx_slc, ↓Xx_noE, ↓kOb_eq, ↓kO_eq, ↓Xx_so, ↓kTb_eq, ↓kT_eq, ↓Xx_tup, ↓kLb_eq, ↓kL_eq, ↓Xx_lst, ↓kCb_eq, ↓kC_eq, ↓Xx_call, ↓Xx_nil, ↓kAb_eq, ↓kA_eq, ↓Xx_cons, ↓Xx_one, ↓kAnb_eq, ↓kAn_eq, ↓Xx_and, ↓kOrb_eq, ↓kOr_eq, ↓Xx_or, ↓kNob_eq, ↓kNo_eq, ↓Xx_not, ↓kIfb_eq, ↓kIf_eq, ↓Xx_if, ↓kTrb_eq, ↓kTr_eq, ↓Xt_cst, ↓Xt_var, ↓Xt_pk, ↓Xt_p1, ↓Xt_p2, ↓Xt_isi, ↓Xt_call, ↓Xt_slc, ↓kE_eq, ↓kIv_d, ↓Xi_val, ↓kRb_eq, ↓kR_eq, ↓Xi_rng1, ↓kEnb_eq, ↓kEn_d, ↓Xi_enu, ↓kAs_d, ↓Xy_asg, ↓kApc_eq, ↓kApb_d, ↓kAp_eq, ↓Xy_app, ↓kX_eq, ↓Xy_ex, ↓kRt_d, ↓Xy_ret, ↓Xy_retN, ↓kItb_eq, ↓kIt_eq, ↓Xy_ite, ↓kF_eq, ↓Xy_for1, ↓kFT_eq, ↓Xy_forT, sl_zero, sl_succ, sd_some, sp_some, sp_if, sp_ifn, sb_some, sf_some, si_some, si_if, sint_some, so_some, res_d, res_pk, tv_t_d, tv_f, resL_nil, resL_cons, fz_d, fz_p, q_neg, q_len_s, q_len_l, q_len_t, q_int, q_int_b, q_add, q_add_s, q_sub, q_mul, q_fdiv, q_mod, q_pow, q_lt, q_le, q_gt, q_ge, q_eq_i, q_eq_s, q_eq_b, q_ne_i, q_ne_s, q_ne_b, q_in_s, q_nin_s, q_is_n, q_is_i, q_is_s, q_is_l, q_is_t, q_nn_n, q_nn_i, q_nn_s, q_nn_l, q_nn_t, q_idx_l, q_idx_t, q_idx_s, q_sl_l, q_sl_s, shr_i, shr_b, shr_s, shr_n, shr_l, own_l, own_t, own_i, own_s, own_b, own_n, ownL_nil, ownL_cons, frz_l0, frz_l1, frz_t, frz_i, frz_s, frz_b, frz_n, frzL_nil, frzL_cons, at_0, at_1, at_2, disp_eq, it_l0, it_t, it_s, eno_s, eno_l, ty_ii, ty_ib, ty_is, ty_ss, ty_si, ty_bb, ty_bi, ty_ll, ty_tt, tr_b, tr_i, tr_l, dat_v, dat_l, dat_t, Option.bind_some, Option.map_some, Bool.or_false, Bool.false_or, Bool.true_and, List.set_cons_zero, List.set_cons_succ, if_true, if_false, Bool.false_eq_true, Bool.not_true, Bool.not_false, ↓reduceIte, List.map_cons, List.map_nil, List.cons_append, List.nil_append, List.replicate_succ, List.replicate_zero, List.length_cons, List.length_nil, Nat.reduceSub, Nat.reduceAdd, true_and, reduceCtorEq, false_and, false_or, or_false, exists_false, Nat.reduceLeDiff, Int.reduceLT, Int.reduceLE, Int.reduceNeg, decide_true, and_self, and_true, Int.toNat_natCast]; exact ⟨_, rfl⟩
          | false =>
            cases k3 : ins d p with
            | true => simp (config := {maxSteps := 4000000}) only [q_is_bb, q_nn_bb, q_eq_ns, q_eq_sn, q_eq_nn, q_ne_ns, q_ne_sn, q_ne_nn, q_in_t, q_in_l, q_nin_l, inL_strs, vB_some_, vNB_some_, ↓Xx_lc, ↓Xt_lc, ↓kLc_eq, ↓kLcR_eq, ↓kLe_d, ↓kLqb_eq, ↓kLq_eq, ↓lc_1, ↓lc_10, ↓lc_2, ↓lc_20, wipe_0, wipe_s, ↓kR2_eq, ↓kR2b_eq, ↓kR2c_eq, ↓kR2d_eq, ↓Xi_rng2, ↓kN_nx, ↓kN_rt, ↓kN_bk, ↓kN_ct, ↓Xy_skip, ↓Xy_seq, ↓kD_eq, ↓Xx_cst, ↓Xx_gc, ↓kV_eq, ↓Xx_var, ↓kM_eq, ↓Xx_mov, ↓kP_eq, ↓Xx_pk, ↓k1b_eq, ↓k1_eq, ↓Xx_p1, ↓k2d_eq, ↓k2c_eq, ↓k2b_eq, ↓k2_eq, ↓Xx_p2, ↓kIb_eq, ↓kI_eq, ↓Xx_isi, ↓kSd_eq, ↓kSc_eq, ↓kSb_eq, ↓kS_eq, ↓Xx_slc, ↓Xx_noE, ↓kOb_eq, ↓kO_eq, ↓Xx_so, ↓kTb_eq, ↓kT_eq, ↓Xx_tup, ↓kLb_eq, ↓kL_eq, ↓Xx_lst, ↓kCb_eq, ↓kC_eq, ↓Xx_call, ↓Xx_nil, ↓kAb_eq, ↓kA_eq, ↓Xx_cons, ↓Xx_one, ↓kAnb_eq, ↓kAn_eq, ↓Xx_and, ↓kOrb_eq, ↓kOr_eq, ↓Xx_or, ↓kNob_eq, ↓kNo_eq, ↓Xx_not, ↓kIfb_eq, ↓kIf_eq, ↓Xx_if, ↓kTrb_eq, ↓kTr_eq, ↓Xt_cst, ↓Xt_var, ↓Xt_pk, ↓Xt_p1, ↓Xt_p2, ↓Xt_isi, ↓Xt_call, ↓Xt_slc, ↓kE_eq, ↓kIv_d, ↓Xi_val, ↓kRb_eq, ↓kR_eq, ↓Xi_rng1, ↓kEnb_eq, ↓kEn_d, ↓Xi_enu, ↓kAs_d, ↓Xy_asg, ↓kApc_eq, ↓kApb_d, ↓kAp_eq, ↓Xy_app, ↓kX_eq, ↓Xy_ex, ↓kRt_d, ↓Xy_ret, ↓Xy_retN, ↓kItb_eq, ↓kIt_eq, ↓Xy_ite, ↓kF_eq, ↓Xy_for1, ↓kFT_eq, ↓Xy_forT, sl_zero, sl_succ, sd_some, sp_some, sp_if, sp_ifn, sb_some, sf_some, si_some, si_if, sint_some, so_some, res_d, res_pk, tv_t_d, tv_f, resL_nil, resL_cons, fz_d, fz_p, q_neg, q_len_s, q_len_l, q_len_t, q_int, q_int_b, q_add, q_add_s, q_sub, q_mul, q_fdiv, q_mod, q_pow, q_lt, q_le, q_gt, q_ge, q_eq_i, q_eq_s, q_eq_b, q_ne_i, q_ne_s, q_ne_b, q_in_s, q_nin_s, q_is_n, q_is_i, q_is_s, q_is_l, q_is_t, q_nn_n, q_nn_i, q_nn_s, q_nn_l, q_nn_t, q_idx_l, q_idx_t, q_idx_s, q_sl_l, q_sl_s, shr_i, shr_b, shr_s, shr_n, shr_l, own_l, own_t, own_i, own_s, own_b, own_n, ownL_nil, ownL_cons, frz_l0, frz_l1, frz_t, frz_i, frz_s, frz_b, frz_n, frzL_nil, frzL_cons, at_0, at_1, at_2, disp_eq, it_l0, it_t, it_s, eno_s, eno_l, ty_ii, ty_ib, ty_is, ty_ss, ty_si, ty_bb, ty_bi, ty_ll, ty_tt, tr_b, tr_i, tr_l, dat_v, dat_l, dat_t, Option.bind_some, Option.map_some, Bool.or_false, Bool.false_or, Bool.true_and, List.set_cons_zero, List.set_cons_succ, if_true, if_false, Bool.false_eq_true, Bool.not_true, Bool.not_false, ↓reduceIte, List.map_cons, List.map_nil, List.cons_append, List.nil_append, List.replicate_succ, List.replicate_zero, List.length_cons, List.length_nil, Nat.reduceSub, Nat.reduceAdd, true_and, reduceCtorEq, false_and, false_or, or_false, exists_false, Nat.reduceLeDiff, Int.reduceLT, Int.reduceLE, Int.reduceNeg, decide_true, and_self, and_true, Int.toNat_natCast]; exact ⟨_, rfl⟩
            | false =>
              simp (config := {maxSteps := 4000000}) only [q_is_bb, q_nn_bb, q_eq_ns, q_eq_sn, q_eq_nn, q_ne_ns, q_ne_sn, q_ne_nn, q_in_t, q_in_l, q_nin_l, inL_strs, vB_some_, vNB_some_, ↓Xx_lc, ↓Xt_lc, ↓kLc_eq, ↓kLcR_eq, ↓kLe_d, ↓kLqb_eq, ↓kLq_eq, ↓lc_1, ↓lc_10, ↓lc_2, ↓lc_20, wipe_0, wipe_s, ↓kR2_eq, ↓kR2b_eq, ↓kR2c_eq, ↓kR2d_eq, ↓Xi_rng2, ↓kN_nx, ↓kN_rt, ↓kN_bk, ↓kN_ct, ↓Xy_skip, ↓Xy_seq, ↓kD_eq, ↓Xx_cst, ↓Xx_gc, ↓kV_eq, ↓Xx_var, ↓kM_eq, ↓Xx_mov, ↓kP_eq, ↓Xx_pk, ↓k1b_eq, ↓k1_eq, ↓Xx_p1, ↓k2d_eq, ↓k2c_eq, ↓k2b_eq, ↓k2_eq, ↓Xx_p2, ↓kIb_eq, ↓kI_eq, ↓Xx_isi, ↓kSd_eq, ↓kSc_eq, ↓kSb_eq, ↓kS_eq, ↓Xx_slc, ↓Xx_noE, ↓kOb_eq, ↓kO_eq, ↓Xx_so, ↓kTb_eq, ↓kT_eq, ↓Xx_tup, ↓kLb_eq, ↓kL_eq, ↓Xx_lst, ↓kCb_eq, ↓kC_eq, ↓Xx_call, ↓Xx_nil, ↓kAb_eq, ↓kA_eq, ↓Xx_cons, ↓Xx_one, ↓kAnb_eq, ↓kAn_eq, ↓Xx_and, ↓kOrb_eq, ↓kOr_eq, ↓Xx_or, ↓kNob_eq, ↓kNo_eq, ↓Xx_not, ↓kIfb_eq, ↓kIf_eq, ↓Xx_if, ↓kTrb_eq, ↓kTr_eq, ↓Xt_cst, ↓Xt_var, ↓Xt_pk, ↓Xt_p1, ↓Xt_p2, ↓Xt_isi, ↓Xt_call, ↓Xt_slc, ↓kE_eq, ↓kIv_d, ↓Xi_val, ↓kRb_eq, ↓kR_eq, ↓Xi_rng1, ↓kEnb_eq, ↓kEn_d, ↓Xi_enu, ↓kAs_d, ↓Xy_asg, ↓kApc_eq, ↓kApb_d, ↓kAp_eq, ↓Xy_app, ↓kX_eq, ↓Xy_ex, ↓kRt_d, ↓Xy_ret, ↓Xy_retN, ↓kItb_eq, ↓kIt_eq, ↓Xy_ite, ↓kF_eq, ↓Xy_for1, ↓kFT_eq, ↓Xy_forT, sl_zero, sl_succ, sd_some, sp_some, sp_if, sp_ifn, sb_some, sf_some, si_some, si_if, sint_some, so_some, res_d, res_pk, tv_t_d, tv_f, resL_nil, resL_cons, fz_d, fz_p, q_neg, q_len_s, q_len_l, q_len_t, q_int, q_int_b, q_add, q_add_s, q_sub, q_mul, q_fdiv, q_mod, q_pow, q_lt, q_le, q_gt, q_ge, q_eq_i, q_eq_s, q_eq_b, q_ne_i, q_ne_s, q_ne_b, q_in_s, q_nin_s, q_is_n, q_is_i, q_is_s, q_is_l, q_is_t, q_nn_n, q_nn_i, q_nn_s, q_nn_l, q_nn_t, q_idx_l, q_idx_t, q_idx_s, q_sl_l, q_sl_s, shr_i, shr_b, shr_s, shr_n, shr_l, own_l, own_t, own_i, own_s, own_b, own_n, ownL_nil, ownL_cons, frz_l0, frz_l1, frz_t, frz_i, frz_s, frz_b, frz_n, frzL_nil, frzL_cons, at_0, at_1, at_2, disp_eq, it_l0, it_t, it_s, eno_s, eno_l, ty_ii, ty_ib, ty_is, ty_ss, ty_si, ty_bb, ty_bi, ty_ll, ty_tt, tr_b, tr_i, tr_l, dat_v, dat_l, dat_t, Option.bind_some, Option.map_some, Bool.or_false, Bool.false_or, Bool.true_and, List.set_cons_zero, List.set_cons_succ, if_true, if_false, Bool.false_eq_true, Bool.not_true, Bool.not_false, ↓reduceIte, List.map_cons, List.map_nil, List.cons_append, List.nil_append, List.replicate_succ, List.replicate_zero, List.length_cons, List.length_nil, Nat.reduceSub, Nat.reduceAdd, true_and, reduceCtorEq, false_and, false_or, or_false, exists_false, Nat.reduceLeDiff, Int.reduceLT, Int.reduceLE, Int.reduceNeg, decide_true, and_self, and_true, Int.toNat_natCast, cons_whole hl hpl hc hd hpc k1 k2 k3]
              exact ⟨_, rfl⟩
      · rintro e ⟨o7, rfl⟩
        simp (config := {maxSteps := 4000000}) only [q_is_bb, q_nn_bb, q_eq_ns, q_eq_sn, q_eq_nn, q_ne_ns, q_ne_sn, q_ne_nn, q_in_t, q_in_l, q_nin_l, inL_strs, vB_some_, vNB_some_, ↓Xx_lc, ↓Xt_lc, ↓kLc_eq, ↓kLcR_eq, ↓kLe_d, ↓kLqb_eq, ↓kLq_eq, ↓lc_1, ↓lc_10, ↓lc_2, ↓lc_20, wipe_0, wipe_s, ↓kR2_eq, ↓kR2b_eq, ↓kR2c_eq, ↓kR2d_eq, ↓Xi_rng2, ↓kN_nx, ↓kN_rt, ↓kN_bk, ↓kN_ct, ↓Xy_skip, ↓Xy_seq, ↓kD_eq, ↓Xx_cst, ↓Xx_gc, ↓kV_eq, ↓Xx_var, ↓kM_eq, ↓Xx_mov, ↓kP_eq, ↓Xx_pk, ↓k1b_eq, ↓k1_eq, ↓Xx_p1, ↓k2d_eq, ↓k2c_eq, ↓k2b_eq, ↓k2_eq, ↓Xx_p2, ↓kIb_eq, ↓kI_eq, ↓Xx_isi, ↓kSd_eq, ↓kSc_eq, ↓kSb_eq, ↓kS_eq, ↓Xx_slc, ↓Xx_noE, ↓kOb_eq, ↓kO_eq, ↓Xx_so, ↓kTb_eq, ↓kT_eq, ↓Xx_tup, ↓kLb_eq, ↓kL_eq, ↓Xx_lst, ↓kCb_eq, ↓kC_eq, ↓Xx_call, ↓Xx_nil, ↓kAb_eq, ↓kA_eq, ↓Xx_cons, ↓Xx_one, ↓kAnb_eq, ↓kAn_eq, ↓Xx_and, ↓kOrb_eq, ↓kOr_eq, ↓Xx_or, ↓kNob_eq, ↓kNo_eq, ↓Xx_not, ↓kIfb_eq, ↓kIf_eq, ↓Xx_if, ↓kTrb_eq, ↓kTr_eq, ↓Xt_cst, ↓Xt_var, ↓Xt_pk, ↓Xt_p1, ↓Xt_p2, ↓Xt_isi, ↓Xt_call, ↓Xt_slc, ↓kE_eq, ↓kIv_d, ↓Xi_val, ↓kRb_eq, ↓kR_eq, ↓Xi_rng1, ↓kEnb_eq, ↓kEn_d, ↓Xi_enu, ↓kAs_d, ↓Xy_asg, ↓kApc_eq, ↓kApb_d, ↓kAp_eq, ↓Xy_app, ↓kX_eq, ↓Xy_ex, ↓kRt_d, ↓Xy_ret, ↓Xy_retN, ↓kItb_eq, ↓kIt_eq, ↓Xy_ite, ↓kF_eq, ↓Xy_for1, ↓kFT_eq, ↓Xy_forT, sl_zero, sl_succ, sd_some, sp_some, sp_if, sp_ifn, sb_some, sf_some, si_some, si_if, sint_some, so_some, res_d, res_pk, tv_t_d, tv_f, resL_nil, resL_cons, fz_d, fz_p, q_neg, q_len_s, q_len_l, q_len_t, q_int, q_int_b, q_add, q_add_s, q_sub, q_mul, q_fdiv, q_mod, q_pow, q_lt, q_le, q_gt, q_ge, q_eq_i, q_eq_s, q_eq_b, q_ne_i, q_ne_s, q_ne_b, q_in_s, q_nin_s, q_is_n, q_is_i, q_is_s, q_is_l, q_is_t, q_nn_n, q_nn_i, q_nn_s, q_nn_l, q_nn_t, q_idx_l, q_idx_t, q_idx_s, q_sl_l, q_sl_s, shr_i, shr_b, shr_s, shr_n, shr_l, own_l, own_t, own_i, own_s, own_b, own_n, ownL_nil, ownL_cons, frz_l0, frz_l1, frz_t, frz_i, frz_s, frz_b, frz_n, frzL_nil, frzL_cons, at_0, at_1, at_2, disp_eq, it_l0, it_t, it_s, eno_s, eno_l, ty_ii, ty_ib, ty_is, ty_ss, ty_si, ty_bb, ty_bi, ty_ll, ty_tt, tr_b, tr_i, tr_l, dat_v, dat_l, dat_t, Option.bind_some, Option.map_some, Bool.or_false, Bool.false_or, Bool.true_and, List.set_cons_zero, List.set_cons_succ, if_true, if_false, Bool.false_eq_true, Bool.not_true, Bool.not_false, ↓reduceIte, List.map_cons, List.map_nil, List.cons_append, List.nil_append, List.replicate_succ, List.replicate_zero, List.length_cons, List.length_nil, Nat.reduceSub, Nat.reduceAdd, true_and, reduceCtorEq, false_and, false_or, or_false, exists_false, Nat.reduceLeDiff, Int.reduceLT, Int.reduceLE, Int.reduceNeg, decide_true, and_self, and_true, Int.toNat_natCast]
  · rw [if_neg q]
    refine run_rt (d := d15) rfl rfl ?_
    cases o <;> simp (config := {maxSteps := 4000000}) only [q_is_bb, q_nn_bb, q_eq_ns, q_eq_sn, q_eq_nn, q_ne_ns, q_ne_sn, q_ne_nn, q_in_t, q_in_l, q_nin_l, inL_strs, vB_some_, vNB_some_, ↓Xx_lc, ↓Xt_lc, ↓kLc_eq, ↓kLcR_eq, ↓kLe_d, ↓kLqb_eq, ↓kLq_eq, ↓lc_1, ↓lc_10, ↓lc_2, ↓lc_20, wipe_0, wipe_s, ↓kR2_eq, ↓kR2b_eq, ↓kR2c_eq, ↓kR2d_eq, ↓Xi_rng2, ↓kN_nx, ↓kN_rt, ↓kN_bk, ↓kN_ct, ↓Xy_skip, ↓Xy_seq, ↓kD_eq, ↓Xx_cst, ↓Xx_gc, ↓kV_eq, ↓Xx_var, ↓kM_eq, ↓Xx_mov, ↓kP_eq, ↓Xx_pk, ↓k1b_eq, ↓k1_eq, ↓Xx_p1, ↓k2d_eq, ↓k2c_eq, ↓k2b_eq, ↓k2_eq, ↓Xx_p2, ↓kIb_eq, ↓kI_eq, ↓Xx_isi, ↓kSd_eq, ↓kSc_eq, ↓kSb_eq, ↓kS_eq, ↓Xx_slc, ↓Xx_noE, ↓kOb_eq, ↓kO_eq, ↓Xx_so, ↓kTb_eq, ↓kT_eq, ↓Xx_tup, ↓kLb_eq, ↓kL_eq, ↓Xx_lst, ↓kCb_eq, ↓kC_eq, ↓Xx_call, ↓Xx_nil, ↓kAb_eq, ↓kA_eq, ↓Xx_cons, ↓Xx_one, ↓kAnb_eq, ↓kAn_eq, ↓Xx_and, ↓kOrb_eq, ↓kOr_eq, ↓Xx_or, ↓kNob_eq, ↓kNo_eq, ↓Xx_not, ↓kIfb_eq, ↓kIf_eq, ↓Xx_if, ↓kTrb_eq, ↓kTr_eq, ↓Xt_cst, ↓Xt_var, ↓Xt_pk, ↓Xt_p1, ↓Xt_p2, ↓Xt_isi, ↓Xt_call, ↓Xt_slc, ↓kE_eq, ↓kIv_d, ↓Xi_val, ↓kRb_eq, ↓kR_eq, ↓Xi_rng1, ↓kEnb_eq, ↓kEn_d, ↓Xi_enu, ↓kAs_d, ↓Xy_asg, ↓kApc_eq, ↓kApb_d, ↓kAp_eq, ↓Xy_app, ↓kX_eq, ↓Xy_ex, ↓kRt_d, ↓Xy_ret, ↓Xy_retN, ↓kItb_eq, ↓kIt_eq, ↓Xy_ite, ↓kF_eq, ↓Xy_for1, ↓kFT_eq, ↓Xy_forT, sl_zero, sl_succ, sd_some, sp_some, sp_if, sp_ifn, sb_some, sf_some, si_some, si_if, sint_some, so_some, res_d, res_pk, tv_t_d, tv_f, resL_nil, resL_cons, fz_d, fz_p, q_neg, q_len_s, q_len_l, q_len_t, q_int, q_int_b, q_add, q_add_s, q_sub, q_mul, q_fdiv, q_mod, q_pow, q_lt, q_le, q_gt, q_ge, q_eq_i, q_eq_s, q_eq_b, q_ne_i, q_ne_s, q_ne_b, q_in_s, q_nin_s, q_is_n, q_is_i, q_is_s, q_is_l, q_is_t, q_nn_n, q_nn_i, q_nn_s, q_nn_l, q_nn_t, q_idx_l, q_idx_t, q_idx_s, q_sl_l, q_sl_s, shr_i, shr_b, shr_s, shr_n, shr_l, own_l, own_t, own_i, own_s, own_b, own_n, ownL_nil, ownL_cons, frz_l0, frz_l1, frz_t, frz_i, frz_s, frz_b, frz_n, frzL_nil, frzL_cons, at_0, at_1, at_2, disp_eq, it_l0, it_t, it_s, eno_s, eno_l, ty_ii, ty_ib, ty_is, ty_ss, ty_si, ty_bb, ty_bi, ty_ll, ty_tt, tr_b, tr_i, tr_l, dat_v, dat_l, dat_t, Option.bind_some, Option.map_some, Bool.or_false, Bool.false_or, Bool.true_and, List.set_cons_zero, List.set_cons_succ, if_true, if_false, Bool.false_eq_true, Bool.not_true, Bool.not_false, ↓reduceIte, List.map_cons, List.map_nil, List.cons_append, List.nil_append, List.replicate_succ, List.replicate_zero, List.length_cons, List.length_nil, Nat.reduceSub, Nat.reduceAdd, true_and, reduceCtorEq, false_and, false_or, or_false, exists_false, Nat.reduceLeDiff, Int.reduceLT, Int.reduceLE, Int.reduceNeg, decide_true, and_self, and_true, Int.toNat_natCast, d15, c15, hv, own_strs, frz_strs]
    all_goals
      refine ⟨⟨by omega, by omega⟩, comp_sat (rops c d) (turn _ _ _ _) (by simp; omega) ?_⟩
      rw [e2]
      simp (config := {maxSteps := 4000000}) only [q_is_bb, q_nn_bb, q_eq_ns, q_eq_sn, q_eq_nn, q_ne_ns, q_ne_sn, q_ne_nn, q_in_t, q_in_l, q_nin_l, inL_strs, vB_some_, vNB_some_, ↓Xx_lc, ↓Xt_lc, ↓kLc_eq, ↓kLcR_eq, ↓kLe_d, ↓kLqb_eq, ↓kLq_eq, ↓lc_1, ↓lc_10, ↓lc_2, ↓lc_20, wipe_0, wipe_s, ↓kR2_eq, ↓kR2b_eq, ↓kR2c_eq, ↓kR2d_eq, ↓Xi_rng2, ↓kN_nx, ↓kN_rt, ↓kN_bk, ↓kN_ct, ↓Xy_skip, ↓Xy_seq, ↓kD_eq, ↓Xx_cst, ↓Xx_gc, ↓kV_eq, ↓Xx_var, ↓kM_eq, ↓Xx_mov, ↓kP_eq, ↓Xx_pk, ↓k1b_eq, ↓k1_eq, ↓Xx_p1, ↓k2d_eq, ↓k2c_eq, ↓k2b_eq, ↓k2_eq, ↓Xx_p2, ↓kIb_eq, ↓kI_eq, ↓Xx_isi, ↓kSd_eq, ↓kSc_eq, ↓kSb_eq, ↓kS_eq, ↓Xx_slc, ↓Xx_noE, ↓kOb_eq, ↓kO_eq, ↓Xx_so, ↓kTb_eq, ↓kT_eq, ↓Xx_tup, ↓kLb_eq, ↓kL_eq, ↓Xx_lst, ↓kCb_eq, ↓kC_eq, ↓Xx_call, ↓Xx_nil, ↓kAb_eq, ↓kA_eq, ↓Xx_cons, ↓Xx_one, ↓kAnb_eq, ↓kAn_eq, ↓Xx_and, ↓kOrb_eq, ↓kOr_eq, ↓Xx_or, ↓kNob_eq, ↓kNo_eq, ↓Xx_not, ↓kIfb_eq, ↓kIf_eq, ↓Xx_if, ↓kTrb_eq, ↓kTr_eq, ↓Xt_cst, ↓Xt_var, ↓Xt_pk, ↓Xt_p1, ↓Xt_p2, ↓Xt_isi, ↓Xt_call, ↓Xt_slc, ↓kE_eq, ↓kIv_d, ↓Xi_val, ↓kRb_eq, ↓kR_eq, ↓Xi_rng1, ↓kEnb_eq, ↓kEn_d, ↓Xi_enu, ↓kAs_d, ↓Xy_asg, ↓kApc_eq, ↓kApb_d, ↓kAp_eq, ↓Xy_app, ↓kX_eq, ↓Xy_ex, ↓kRt_d, ↓Xy_ret, ↓Xy_retN, ↓kItb_eq, ↓kIt_eq, ↓Xy_ite, ↓kF_eq, ↓Xy_for1, ↓kFT_eq, ↓Xy_forT, sl_zero, sl_succ, sd_some, sp_some, sp_if, sp_ifn, sb_some, sf_some, si_some, si_if, sint_some, so_some, res_d, res_pk, tv_t_d, tv_f, resL_nil, resL_cons, fz_d, fz_p, q_neg, q_len_s, q_len_l, q_len_t, q_int, q_int_b, q_add, q_add_s, q_sub, q_mul, q_fdiv, q_mod, q_pow, q_lt, q_le, q_gt, q_ge, q_eq_i, q_eq_s, q_eq_b, q_ne_i, q_ne_s, q_ne_b, q_in_s, q_nin_s, q_is_n, q_is_i, q_is_s, q_is_l, q_is_t, q_nn_n, q_nn_i, q_nn_s, q_nn_l, q_nn_t, q_idx_l, q_idx_t, q_idx_s, q_sl_l, q_sl_s, shr_i, shr_b, shr_s, shr_n, shr_l, own_l, own_t, own_i, own_s, own_b, own_n, ownL_nil, ownL_cons, frz_l0, frz_l1, frz_t, frz_i, frz_s, frz_b, frz_n, frzL_nil, frzL_cons, at_0, at_1, at_2, disp_eq, it_l0, it_t, it_s, eno_s, eno_l, ty_ii, ty_ib, ty_is, ty_ss, ty_si, ty_bb, ty_bi, ty_ll, ty_tt, tr_b, tr_i, tr_l, dat_v, dat_l, dat_t, Option.bind_some, Option.map_some, Bool.or_false, Bool.false_or, Bool.true_and, List.set_cons_zero, List.set_cons_succ, if_true, if_false, Bool.false_eq_true, Bool.not_true, Bool.not_false, ↓reduceIte, List.map_cons, List.map_nil, List.cons_append, List.nil_append, List.replicate_succ, List.replicate_zero, List.length_cons, List.length_nil, Nat.reduceSub, Nat.reduceAdd, true_and, reduceCtorEq, false_and, false_or, or_false, exists_false, Nat.reduceLeDiff, Int.reduceLT, Int.reduceLE, Int.reduceNeg, decide_true, and_self, and_true, Int.toNat_natCast, List.length_map]
      refine ite2 (fun z => trivial) (fun z => ?_)
      exfalso
      have : (((ops c d).length : Nat) : Int) = 1 := by simpa using z
      omega
theorem holds (ns : List Int) (hn : ns.length ≤ 63) : OI.run gcs tab 10 16 [.lst false (ns.map D.int)] = some (.ok (.bl true)) := by
  obtain ⟨v, hv, l, rfl, hll, hl⟩ := r_draws 7 ns hn 19 (by decide)
  have hv : OI.run gcs tab 9 9 [.lst false (ns.map D.int), .int 19] = some (.ok (.lst true (l.map D.int))) := hv
  obtain ⟨x0, h0, hx0⟩ := pick hl (i := 0) (k := 0) rfl (by omega)
  obtain ⟨m, hm, hm1, hm4⟩ := size4 hx0
  refine run_rt (d := d16) rfl rfl ?_
  simp (config := {maxSteps := 4000000}) only [q_is_bb, q_nn_bb, q_eq_ns, q_eq_sn, q_eq_nn, q_ne_ns, q_ne_sn, q_ne_nn, q_in_t, q_in_l, q_nin_l, inL_strs, vB_some_, vNB_some_, ↓Xx_lc, ↓Xt_lc, ↓kLc_eq, ↓kLcR_eq, ↓kLe_d, ↓kLqb_eq, ↓kLq_eq, ↓lc_1, ↓lc_10, ↓lc_2, ↓lc_20, wipe_0, wipe_s, ↓kR2_eq, ↓kR2b_eq, ↓kR2c_eq, ↓kR2d_eq, ↓Xi_rng2, ↓kN_nx, ↓kN_rt, ↓kN_bk, ↓kN_ct, ↓Xy_skip, ↓Xy_seq, ↓kD_eq, ↓Xx_cst, ↓Xx_gc, ↓kV_eq, ↓Xx_var, ↓kM_eq, ↓Xx_mov, ↓kP_eq, ↓Xx_pk, ↓k1b_eq, ↓k1_eq, ↓Xx_p1, ↓k2d_eq, ↓k2c_eq, ↓k2b_eq, ↓k2_eq, ↓Xx_p2, ↓kIb_eq, ↓kI_eq, ↓Xx_isi, ↓kSd_eq, ↓kSc_eq, ↓kSb_eq, ↓kS_eq, ↓Xx_slc, ↓Xx_noE, ↓kOb_eq, ↓kO_eq, ↓Xx_so, ↓kTb_eq, ↓kT_eq, ↓Xx_tup, ↓kLb_eq, ↓kL_eq, ↓Xx_lst, ↓kCb_eq, ↓kC_eq, ↓Xx_call, ↓Xx_nil, ↓kAb_eq, ↓kA_eq, ↓Xx_cons, ↓Xx_one, ↓kAnb_eq, ↓kAn_eq, ↓Xx_and, ↓kOrb_eq, ↓kOr_eq, ↓Xx_or, ↓kNob_eq, ↓kNo_eq, ↓Xx_not, ↓kIfb_eq, ↓kIf_eq, ↓Xx_if, ↓kTrb_eq, ↓kTr_eq, ↓Xt_cst, ↓Xt_var, ↓Xt_pk, ↓Xt_p1, ↓Xt_p2, ↓Xt_isi, ↓Xt_call, ↓Xt_slc, ↓kE_eq, ↓kIv_d, ↓Xi_val, ↓kRb_eq, ↓kR_eq, ↓Xi_rng1, ↓kEnb_eq, ↓kEn_d, ↓Xi_enu, ↓kAs_d, ↓Xy_asg, ↓kApc_eq, ↓kApb_d, ↓kAp_eq, ↓Xy_app, ↓kX_eq, ↓Xy_ex, ↓kRt_d, ↓Xy_ret, ↓Xy_retN, ↓kItb_eq, ↓kIt_eq, ↓Xy_ite, ↓kF_eq, ↓Xy_for1, ↓kFT_eq, ↓Xy_forT, sl_zero, sl_succ, sd_some, sp_some, sp_if, sp_ifn, sb_some, sf_some, si_some, si_if, sint_some, so_some, res_d, res_pk, tv_t_d, tv_f, resL_nil, resL_cons, fz_d, fz_p, q_neg, q_len_s, q_len_l, q_len_t, q_int, q_int_b, q_add, q_add_s, q_sub, q_mul, q_fdiv, q_mod, q_pow, q_lt, q_le, q_gt, q_ge, q_eq_i, q_eq_s, q_eq_b, q_ne_i, q_ne_s, q_ne_b, q_in_s, q_nin_s, q_is_n, q_is_i, q_is_s, q_is_l, q_is_t, q_nn_n, q_nn_i, q_nn_s, q_nn_l, q_nn_t, q_idx_l, q_idx_t, q_idx_s, q_sl_l, q_sl_s, shr_i, shr_b, shr_s, shr_n, shr_l, own_l, own_t, own_i, own_s, own_b, own_n, ownL_nil, ownL_cons, frz_l0, frz_l1, frz_t, frz_i, frz_s, frz_b, frz_n, frzL_nil, frzL_cons, at_0, at_1, at_2, disp_eq, it_l0, it_t, it_s, eno_s, eno_l, ty_ii, ty_ib, ty_is, ty_ss, ty_si, ty_bb, ty_bi, ty_ll, ty_tt, tr_b, tr_i, tr_l, dat_v, dat_l, dat_t, Option.bind_some, Option.map_some, Bool.or_false, Bool.false_or, Bool.true_and, List.set_cons_zero, List.set_cons_succ, if_true, if_false, Bool.false_eq_true, Bool.not_true, Bool.not_false, ↓reduceIte, List.map_cons, List.map_nil, List.cons_append, List.nil_append, List.replicate_succ, List.replicate_zero, List.length_cons, List.length_nil, Nat.reduceSub, Nat.reduceAdd, true_and, reduceCtorEq, false_and, false_or, or_false, exists_false, Nat.reduceLeDiff, Int.reduceLT, Int.reduceLE, Int.reduceNeg, decide_true, and_self, and_true, Int.toNat_natCast, d16, c16, own_ints, frz_ints, hv, h0, hm]
  refine for_inv (fun i e => ∃ o3 o4 o5 o6, e = [some (.lst false (ns.map D.int)), some (.lst true (l.map D.int)), some (.int m), o3, o4, o5, o6]) ⟨_, _, _, _, rfl⟩ ?_ ?_
  · rintro i x e hx ⟨o3, o4, o5, o6, rfl⟩
    obtain ⟨hi, rfl⟩ := rng_get hx
    have hi : i < 6 := by simpa using hi
    obtain ⟨x1, h1, hx1⟩ := pick hl (i := 3 * (i : Int) + 1) (k := 3 * i + 1) (by omega) (by omega)
    obtain ⟨x2, h2, hx2⟩ := pick hl (i := 3 * (i : Int) + 2) (k := 3 * i + 2) (by omega) (by omega)
    obtain ⟨x3, h3, hx3⟩ := pick hl (i := 3 * (i : Int) + 3) (k := 3 * i + 3) (by omega) (by omega)
    obtain ⟨_, hc, c, rfl, hcl, hcc⟩ := r_cube 8 x1 m (by omega)
    obtain ⟨_, hd, d, rfl, hdl, hdc⟩ := r_cube 8 x2 m (by omega)
    obtain ⟨_, hf, f, rfl, hfl, hfc⟩ := r_near 8 c d (x3 / 3 % (m : Int)) (by omega) (by omega) hcc hdc
    have key : ∀ d : List Nat, d.length = m → IsC d → (if (ops d c).length = 1 then D.str (mg d c) else .non) = (if (ops c d).length = 1 then D.str (mg c d) else .non) ∧ own (if (ops c d).length = 1 then D.str (mg c d) else .non) = false ∧ prim2 .ne (if (ops c d).length = 1 then D.str (mg c d) else .non) (if (ops c d).length = 1 then D.str (mg c d) else .non) = some (.val (.bl false)) := by
      intro d hdl hdc
      refine ⟨by rw [ops_comm (c := d) (d := c) (by omega), mg_comm d c], ?_, ?_⟩
      · split <;> rfl
      · split
        · rw [q_ne_s]; simp
        · rfl
    have k1 := key d hdl hdc
    have k2 := key f (by omega) hfc
    have a1 := r_consensus 4 c d (by omega) (by omega) hcc hdc (by omega)
    have a2 := r_consensus 4 c f (by omega) (by omega) hcc hfc (by omega)
    have a3 := r_consensus 4 d c (by omega) (by omega) hdc hcc (by omega)
    have a4 := r_consensus 4 f c (by omega) (by omega) hfc hcc (by omega)
    rw [k1.1] at a3
    rw [k2.1] at a4
    have b1 := r_right 6 c d (by omega) (by omega) (by omega) hcc hdc
    have b2 := r_right 6 c f (by omega) (by omega) (by omega) hcc hfc
    have k1b := k1.2.1
    have k1c := k1.2.2
    have k2b := k2.2.1
    have k2c := k2.2.2
    generalize (if (ops c d).length = 1 then D.str (mg c d) else .non) = T at a1 a3 b1 k1b k1c
    generalize (if (ops c f).length = 1 then D.str (mg c f) else .non) = U at a2 a4 b2 k2b k2c
    rw [lp1_eq]
    simp (config := {maxSteps := 4000000}) only [q_is_bb, q_nn_bb, q_eq_ns, q_eq_sn, q_eq_nn, q_ne_ns, q_ne_sn, q_ne_nn, q_in_t, q_in_l, q_nin_l, inL_strs, vB_some_, vNB_some_, ↓Xx_lc, ↓Xt_lc, ↓kLc_eq, ↓kLcR_eq, ↓kLe_d, ↓kLqb_eq, ↓kLq_eq, ↓lc_1, ↓lc_10, ↓lc_2, ↓lc_20, wipe_0, wipe_s, ↓kR2_eq, ↓kR2b_eq, ↓kR2c_eq, ↓kR2d_eq, ↓Xi_rng2, ↓kN_nx, ↓kN_rt, ↓kN_bk, ↓kN_ct, ↓Xy_skip, ↓Xy_seq, ↓kD_eq, ↓Xx_cst, ↓Xx_gc, ↓kV_eq, ↓Xx_var, ↓kM_eq, ↓Xx_mov, ↓kP_eq, ↓Xx_pk, ↓k1b_eq, ↓k1_eq, ↓Xx_p1, ↓k2d_eq, ↓k2c_eq, ↓k2b_eq, ↓k2_eq, ↓Xx_p2, ↓kIb_eq, ↓kI_eq, ↓Xx_isi, ↓kSd_eq, ↓kSc_eq, ↓kSb_eq, ↓kS_eq, ↓Xx_slc, ↓Xx_noE, ↓kOb_eq, ↓kO_eq, ↓Xx_so, ↓kTb_eq, ↓kT_eq, ↓Xx_tup, ↓kLb_eq, ↓kL_eq, ↓Xx_lst, ↓kCb_eq, ↓kC_eq, ↓Xx_call, ↓Xx_nil, ↓kAb_eq, ↓kA_eq, ↓Xx_cons, ↓Xx_one, ↓kAnb_eq, ↓kAn_eq, ↓Xx_and, ↓kOrb_eq, ↓kOr_eq, ↓Xx_or, ↓kNob_eq, ↓kNo_eq, ↓Xx_not, ↓kIfb_eq, ↓kIf_eq, ↓Xx_if, ↓kTrb_eq, ↓kTr_eq, ↓Xt_cst, ↓Xt_var, ↓Xt_pk, ↓Xt_p1, ↓Xt_p2, ↓Xt_isi, ↓Xt_call, ↓Xt_slc, ↓kE_eq, ↓kIv_d, ↓Xi_val, ↓kRb_eq, ↓kR_eq, ↓Xi_rng1, ↓kEnb_eq, ↓kEn_d, ↓Xi_enu, ↓kAs_d, ↓Xy_asg, ↓kApc_eq, ↓kApb_d, ↓kAp_eq, ↓Xy_app, ↓kX_eq, ↓Xy_ex, ↓kRt_d, ↓Xy_ret, ↓Xy_retN, ↓kItb_eq, ↓kIt_eq, ↓Xy_ite, ↓kF_eq, ↓Xy_for1, ↓kFT_eq, ↓Xy_forT, sl_zero, sl_succ, sd_some, sp_some, sp_if, sp_ifn, sb_some, sf_some, si_some, si_if, sint_some, so_some, res_d, res_pk, tv_t_d, tv_f, resL_nil, resL_cons, fz_d, fz_p, q_neg, q_len_s, q_len_l, q_len_t, q_int, q_int_b, q_add, q_add_s, q_sub, q_mul, q_fdiv, q_mod, q_pow, q_lt, q_le, q_gt, q_ge, q_eq_i, q_eq_s, q_eq_b, q_ne_i, q_ne_s, q_ne_b, q_in_s, q_nin_s, q_is_n, q_is_i, q_is_s, q_is_l, q_is_t, q_nn_n, q_nn_i, q_nn_s, q_nn_l, q_nn_t, q_idx_l, q_idx_t, q_idx_s, q_sl_l, q_sl_s, shr_i, shr_b, shr_s, shr_n, shr_l, own_l, own_t, own_i, own_s, own_b, own_n, ownL_nil, ownL_cons, frz_l0, frz_l1, frz_t, frz_i, frz_s, frz_b, frz_n, frzL_nil, frzL_cons, at_0, at_1, at_2, disp_eq, it_l0, it_t, it_s, eno_s, eno_l, ty_ii, ty_ib, ty_is, ty_ss, ty_si, ty_bb, ty_bi, ty_ll, ty_tt, tr_b, tr_i, tr_l, dat_v, dat_l, dat_t, Option.bind_some, Option.map_some, Bool.or_false, Bool.false_or, Bool.true_and, List.set_cons_zero, List.set_cons_succ, if_true, if_false, Bool.false_eq_true, Bool.not_true, Bool.not_false, ↓reduceIte, List.map_cons, List.map_nil, List.cons_append, List.nil_append, List.replicate_succ, List.replicate_zero, List.length_cons, List.length_nil, Nat.reduceSub, Nat.reduceAdd, true_and, reduceCtorEq, false_and, false_or, or_false, exists_false, Nat.reduceLeDiff, Int.reduceLT, Int.reduceLE, Int.reduceNeg, decide_true, and_self, and_true, Int.toNat_natCast, h1, h2, h3, hc, hd, hf]
    refine ⟨mul_l (by decide) (by decide), mul_l (by decide) (by decide), mul_l (by decide) (by decide), ite2 (fun _ => ?_) (fun _ => ?_)⟩
    · refine ⟨mul_l (by decide) (by decide), by omega, ?_⟩
      simp (config := {maxSteps := 4000000}) only [q_is_bb, q_nn_bb, q_eq_ns, q_eq_sn, q_eq_nn, q_ne_ns, q_ne_sn, q_ne_nn, q_in_t, q_in_l, q_nin_l, inL_strs, vB_some_, vNB_some_, ↓Xx_lc, ↓Xt_lc, ↓kLc_eq, ↓kLcR_eq, ↓kLe_d, ↓kLqb_eq, ↓kLq_eq, ↓lc_1, ↓lc_10, ↓lc_2, ↓lc_20, wipe_0, wipe_s, ↓kR2_eq, ↓kR2b_eq, ↓kR2c_eq, ↓kR2d_eq, ↓Xi_rng2, ↓kN_nx, ↓kN_rt, ↓kN_bk, ↓kN_ct, ↓Xy_skip, ↓Xy_seq, ↓kD_eq, ↓Xx_cst, ↓Xx_gc, ↓kV_eq, ↓Xx_var, ↓kM_eq, ↓Xx_mov, ↓kP_eq, ↓Xx_pk, ↓k1b_eq, ↓k1_eq, ↓Xx_p1, ↓k2d_eq, ↓k2c_eq, ↓k2b_eq, ↓k2_eq, ↓Xx_p2, ↓kIb_eq, ↓kI_eq, ↓Xx_isi, ↓kSd_eq, ↓kSc_eq, ↓kSb_eq, ↓kS_eq, ↓Xx_slc, ↓Xx_noE, ↓kOb_eq, ↓kO_eq, ↓Xx_so, ↓kTb_eq, ↓kT_eq, ↓Xx_tup, ↓kLb_eq, ↓kL_eq, ↓Xx_lst, ↓kCb_eq, ↓kC_eq, ↓Xx_call, ↓Xx_nil, ↓kAb_eq, ↓kA_eq, ↓Xx_cons, ↓Xx_one, ↓kAnb_eq, ↓kAn_eq, ↓Xx_and, ↓kOrb_eq, ↓kOr_eq, ↓Xx_or, ↓kNob_eq, ↓kNo_eq, ↓Xx_not, ↓kIfb_eq, ↓kIf_eq, ↓Xx_if, ↓kTrb_eq, ↓kTr_eq, ↓Xt_cst, ↓Xt_var, ↓Xt_pk, ↓Xt_p1, ↓Xt_p2, ↓Xt_isi, ↓Xt_call, ↓Xt_slc, ↓kE_eq, ↓kIv_d, ↓Xi_val, ↓kRb_eq, ↓kR_eq, ↓Xi_rng1, ↓kEnb_eq, ↓kEn_d, ↓Xi_enu, ↓kAs_d, ↓Xy_asg, ↓kApc_eq, ↓kApb_d, ↓kAp_eq, ↓Xy_app, ↓kX_eq, ↓Xy_ex, ↓kRt_d, ↓Xy_ret, ↓Xy_retN, ↓kItb_eq, ↓kIt_eq, ↓Xy_ite, ↓kF_eq, ↓Xy_for1, ↓kFT_eq, ↓Xy_forT, sl_zero, sl_succ, sd_some, sp_some, sp_if, sp_ifn, sb_some, sf_some, si_some, si_if, sint_some, so_some, res_d, res_pk, tv_t_d, tv_f, resL_nil, resL_cons, fz_d, fz_p, q_neg, q_len_s, q_len_l, q_len_t, q_int, q_int_b, q_add, q_add_s, q_sub, q_mul, q_fdiv, q_mod, q_pow, q_lt, q_le, q_gt, q_ge, q_eq_i, q_eq_s, q_eq_b, q_ne_i, q_ne_s, q_ne_b, q_in_s, q_nin_s, q_is_n, q_is_i, q_is_s, q_is_l, q_is_t, q_nn_n, q_nn_i, q_nn_s, q_nn_l, q_nn_t, q_idx_l, q_idx_t, q_idx_s, q_sl_l, q_sl_s, shr_i, shr_b, shr_s, shr_n, shr_l, own_l, own_t, own_i, own_s, own_b, own_n, ownL_nil, ownL_cons, frz_l0, frz_l1, frz_t, frz_i, frz_s, frz_b, frz_n, frzL_nil, frzL_cons, at_0, at_1, at_2, disp_eq, it_l0, it_t, it_s, eno_s, eno_l, ty_ii, ty_ib, ty_is, ty_ss, ty_si, ty_bb, ty_bi, ty_ll, ty_tt, tr_b, tr_i, tr_l, dat_v, dat_l, dat_t, Option.bind_some, Option.map_some, Bool.or_false, Bool.false_or, Bool.true_and, List.set_cons_zero, List.set_cons_succ, if_true, if_false, Bool.false_eq_true, Bool.not_true, Bool.not_false, ↓reduceIte, List.map_cons, List.map_nil, List.cons_append, List.nil_append, List.replicate_succ, List.replicate_zero, List.length_cons, List.length_nil, Nat.reduceSub, Nat.reduceAdd, true_and, reduceCtorEq, false_and, false_or, or_false, exists_false, Nat.reduceLeDiff, Int.reduceLT, Int.reduceLE, Int.reduceNeg, decide_true, and_self, and_true, Int.toNat_natCast, hf, a2, a4, b2, k2b, k2c]
      exact ⟨_, _, _, _, rfl⟩
    · simp (config := {maxSteps := 4000000}) only [q_is_bb, q_nn_bb, q_eq_ns, q_eq_sn, q_eq_nn, q_ne_ns, q_ne_sn, q_ne_nn, q_in_t, q_in_l, q_nin_l, inL_strs, vB_some_, vNB_some_, ↓Xx_lc, ↓Xt_lc, ↓kLc_eq, ↓kLcR_eq, ↓kLe_d, ↓kLqb_eq, ↓kLq_eq, ↓lc_1, ↓lc_10, ↓lc_2, ↓lc_20, wipe_0, wipe_s, ↓kR2_eq, ↓kR2b_eq, ↓kR2c_eq, ↓kR2d_eq, ↓Xi_rng2, ↓kN_nx, ↓kN_rt, ↓kN_bk, ↓kN_ct, ↓Xy_skip, ↓Xy_seq, ↓kD_eq, ↓Xx_cst, ↓Xx_gc, ↓kV_eq, ↓Xx_var, ↓kM_eq, ↓Xx_mov, ↓kP_eq, ↓Xx_pk, ↓k1b_eq, ↓k1_eq, ↓Xx_p1, ↓k2d_eq, ↓k2c_eq, ↓k2b_eq, ↓k2_eq, ↓Xx_p2, ↓kIb_eq, ↓kI_eq, ↓Xx_isi, ↓kSd_eq, ↓kSc_eq, ↓kSb_eq, ↓kS_eq, ↓Xx_slc, ↓Xx_noE, ↓kOb_eq, ↓kO_eq, ↓Xx_so, ↓kTb_eq, ↓kT_eq, ↓Xx_tup, ↓kLb_eq, ↓kL_eq, ↓Xx_lst, ↓kCb_eq, ↓kC_eq, ↓Xx_call, ↓Xx_nil, ↓kAb_eq, ↓kA_eq, ↓Xx_cons, ↓Xx_one, ↓kAnb_eq, ↓kAn_eq, ↓Xx_and, ↓kOrb_eq, ↓kOr_eq, ↓Xx_or, ↓kNob_eq, ↓kNo_eq, ↓Xx_not, ↓kIfb_eq, ↓kIf_eq, ↓Xx_if, ↓kTrb_eq, ↓kTr_eq, ↓Xt_cst, ↓Xt_var, ↓Xt_pk, ↓Xt_p1, ↓Xt_p2, ↓Xt_isi, ↓Xt_call, ↓Xt_slc, ↓kE_eq, ↓kIv_d, ↓Xi_val, ↓kRb_eq, ↓kR_eq, ↓Xi_rng1, ↓kEnb_eq, ↓kEn_d, ↓Xi_enu, ↓kAs_d, ↓Xy_asg, ↓kApc_eq, ↓kApb_d, ↓kAp_eq, ↓Xy_app, ↓kX_eq, ↓Xy_ex, ↓kRt_d, ↓Xy_ret, ↓Xy_retN, ↓kItb_eq, ↓kIt_eq, ↓Xy_ite, ↓kF_eq, ↓Xy_for1, ↓kFT_eq, ↓Xy_forT, sl_zero, sl_succ, sd_some, sp_some, sp_if, sp_ifn, sb_some, sf_some, si_some, si_if, sint_some, so_some, res_d, res_pk, tv_t_d, tv_f, resL_nil, resL_cons, fz_d, fz_p, q_neg, q_len_s, q_len_l, q_len_t, q_int, q_int_b, q_add, q_add_s, q_sub, q_mul, q_fdiv, q_mod, q_pow, q_lt, q_le, q_gt, q_ge, q_eq_i, q_eq_s, q_eq_b, q_ne_i, q_ne_s, q_ne_b, q_in_s, q_nin_s, q_is_n, q_is_i, q_is_s, q_is_l, q_is_t, q_nn_n, q_nn_i, q_nn_s, q_nn_l, q_nn_t, q_idx_l, q_idx_t, q_idx_s, q_sl_l, q_sl_s, shr_i, shr_b, shr_s, shr_n, shr_l, own_l, own_t, own_i, own_s, own_b, own_n, ownL_nil, ownL_cons, frz_l0, frz_l1, frz_t, frz_i, frz_s, frz_b, frz_n, frzL_nil, frzL_cons, at_0, at_1, at_2, disp_eq, it_l0, it_t, it_s, eno_s, eno_l, ty_ii, ty_ib, ty_is, ty_ss, ty_si, ty_bb, ty_bi, ty_ll, ty_tt, tr_b, tr_i, tr_l, dat_v, dat_l, dat_t, Option.bind_some, Option.map_some, Bool.or_false, Bool.false_or, Bool.true_and, List.set_cons_zero, List.set_cons_succ, if_true, if_false, Bool.false_eq_true, Bool.not_true, Bool.not_false, ↓reduceIte, List.map_cons, List.map_nil, List.cons_append, List.nil_append, List.replicate_succ, List.replicate_zero, List.length_cons, List.length_nil, Nat.reduceSub, Nat.reduceAdd, true_and, reduceCtorEq, false_and, false_or, or_false, exists_false, Nat.reduceLeDiff, Int.reduceLT, Int.reduceLE, Int.reduceNeg, decide_true, and_self, and_true, Int.toNat_natCast, a1, a3, b1, k1b, k1c]
      exact ⟨_, _, _, _, rfl⟩
  · rintro e ⟨o3, o4, o5, o6, rfl⟩
    simp (config := {maxSteps := 4000000}) only [q_is_bb, q_nn_bb, q_eq_ns, q_eq_sn, q_eq_nn, q_ne_ns, q_ne_sn, q_ne_nn, q_in_t, q_in_l, q_nin_l, inL_strs, vB_some_, vNB_some_, ↓Xx_lc, ↓Xt_lc, ↓kLc_eq, ↓kLcR_eq, ↓kLe_d, ↓kLqb_eq, ↓kLq_eq, ↓lc_1, ↓lc_10, ↓lc_2, ↓lc_20, wipe_0, wipe_s, ↓kR2_eq, ↓kR2b_eq, ↓kR2c_eq, ↓kR2d_eq, ↓Xi_rng2, ↓kN_nx, ↓kN_rt, ↓kN_bk, ↓kN_ct, ↓Xy_skip, ↓Xy_seq, ↓kD_eq, ↓Xx_cst, ↓Xx_gc, ↓kV_eq, ↓Xx_var, ↓kM_eq, ↓Xx_mov, ↓kP_eq, ↓Xx_pk, ↓k1b_eq, ↓k1_eq, ↓Xx_p1, ↓k2d_eq, ↓k2c_eq, ↓k2b_eq, ↓k2_eq, ↓Xx_p2, ↓kIb_eq, ↓kI_eq, ↓Xx_isi, ↓kSd_eq, ↓kSc_eq, ↓kSb_eq, ↓kS_eq, ↓Xx_slc, ↓Xx_noE, ↓kOb_eq, ↓kO_eq, ↓Xx_so, ↓kTb_eq, ↓kT_eq, ↓Xx_tup, ↓kLb_eq, ↓kL_eq, ↓Xx_lst, ↓kCb_eq, ↓kC_eq, ↓Xx_call, ↓Xx_nil, ↓kAb_eq, ↓kA_eq, ↓Xx_cons, ↓Xx_one, ↓kAnb_eq, ↓kAn_eq, ↓Xx_and, ↓kOrb_eq, ↓kOr_eq, ↓Xx_or, ↓kNob_eq, ↓kNo_eq, ↓Xx_not, ↓kIfb_eq, ↓kIf_eq, ↓Xx_if, ↓kTrb_eq, ↓kTr_eq, ↓Xt_cst, ↓Xt_var, ↓Xt_pk, ↓Xt_p1, ↓Xt_p2, ↓Xt_isi, ↓Xt_call, ↓Xt_slc, ↓kE_eq, ↓kIv_d, ↓Xi_val, ↓kRb_eq, ↓kR_eq, ↓Xi_rng1, ↓kEnb_eq, ↓kEn_d, ↓Xi_enu, ↓kAs_d, ↓Xy_asg, ↓kApc_eq, ↓kApb_d, ↓kAp_eq, ↓Xy_app, ↓kX_eq, ↓Xy_ex, ↓kRt_d, ↓Xy_ret, ↓Xy_retN, ↓kItb_eq, ↓kIt_eq, ↓Xy_ite, ↓kF_eq, ↓Xy_for1, ↓kFT_eq, ↓Xy_forT, sl_zero, sl_succ, sd_some, sp_some, sp_if, sp_ifn, sb_some, sf_some, si_some, si_if, sint_some, so_some, res_d, res_pk, tv_t_d, tv_f, resL_nil, resL_cons, fz_d, fz_p, q_neg, q_len_s, q_len_l, q_len_t, q_int, q_int_b, q_add, q_add_s, q_sub, q_mul, q_fdiv, q_mod, q_pow, q_lt, q_le, q_gt, q_ge, q_eq_i, q_eq_s, q_eq_b, q_ne_i, q_ne_s, q_ne_b, q_in_s, q_nin_s, q_is_n, q_is_i, q_is_s, q_is_l, q_is_t, q_nn_n, q_nn_i, q_nn_s, q_nn_l, q_nn_t, q_idx_l, q_idx_t, q_idx_s, q_sl_l, q_sl_s, shr_i, shr_b, shr_s, shr_n, shr_l, own_l, own_t, own_i, own_s, own_b, own_n, ownL_nil, ownL_cons, frz_l0, frz_l1, frz_t, frz_i, frz_s, frz_b, frz_n, frzL_nil, frzL_cons, at_0, at_1, at_2, disp_eq, it_l0, it_t, it_s, eno_s, eno_l, ty_ii, ty_ib, ty_is, ty_ss, ty_si, ty_bb, ty_bi, ty_ll, ty_tt, tr_b, tr_i, tr_l, dat_v, dat_l, dat_t, Option.bind_some, Option.map_some, Bool.or_false, Bool.false_or, Bool.true_and, List.set_cons_zero, List.set_cons_succ, if_true, if_false, Bool.false_eq_true, Bool.not_true, Bool.not_false, ↓reduceIte, List.map_cons, List.map_nil, List.cons_append, List.nil_append, List.replicate_succ, List.replicate_zero, List.length_cons, List.length_nil, Nat.reduceSub, Nat.reduceAdd, true_and, reduceCtorEq, false_and, false_or, or_false, exists_false, Nat.reduceLeDiff, Int.reduceLT, Int.reduceLE, Int.reduceNeg, decide_true, and_self, and_true, Int.toNat_natCast]
end Lw
namespace Lw
open PySem L2 OI
theorem ok0 : okSs ⟨d0.N, defScope (topS 5), fn, gn⟩ d0.body (defBody (topS 5)) = true := by decide +kernel
theorem sc0 : FnScope d0.N (d0.N.take d0.np) (defScope (topS 5)) := ⟨rfl, rfl, rfl, by decide +kernel, rfl, by decide +kernel, by decide +kernel⟩
theorem ok1 : okSs ⟨d1.N, defScope (topS 6), fn, gn⟩ d1.body (defBody (topS 6)) = true := by decide +kernel
theorem sc1 : FnScope d1.N (d1.N.take d1.np) (defScope (topS 6)) := ⟨rfl, rfl, rfl, by decide +kernel, rfl, by decide +kernel, by decide +kernel⟩
theorem ok2 : okSs ⟨d2.N, defScope (topS 7), fn, gn⟩ d2.body (defBody (topS 7)) = true := by decide +kernel
theorem sc2 : FnScope d2.N (d2.N.take d2.np) (defScope (topS 7)) := ⟨rfl, rfl, rfl, by decide +kernel, rfl, by decide +kernel, by decide +kernel⟩
theorem ok3 : okSs ⟨d3.N, defScope (topS 8), fn, gn⟩ d3.body (defBody (topS 8)) = true := by decide +kernel
theorem sc3 : FnScope d3.N (d3.N.take d3.np) (defScope (topS 8)) := ⟨rfl, rfl, rfl, by decide +kernel, rfl, by decide +kernel, by decide +kernel⟩
theorem ok4 : okSs ⟨d4.N, defScope (topS 9), fn, gn⟩ d4.body (defBody (topS 9)) = true := by decide +kernel
theorem sc4 : FnScope d4.N (d4.N.take d4.np) (defScope (topS 9)) := ⟨rfl, rfl, rfl, by decide +kernel, rfl, by decide +kernel, by decide +kernel⟩
theorem ok5 : okSs ⟨d5.N, defScope (topS 10), fn, gn⟩ d5.body (defBody (topS 10)) = true := by decide +kernel
theorem sc5 : FnScope d5.N (d5.N.take d5.np) (defScope (topS 10)) := ⟨rfl, rfl, rfl, by decide +kernel, rfl, by decide +kernel, by decide +kernel⟩
theorem ok6 : okSs ⟨d6.N, defScope (topS 11), fn, gn⟩ d6.body (defBody (topS 11)) = true := by decide +kernel
theorem sc6 : FnScope d6.N (d6.N.take d6.np) (defScope (topS 11)) := ⟨rfl, rfl, rfl, by decide +kernel, rfl, by decide +kernel, by decide +kernel⟩
theorem ok7 : okSs ⟨d7.N, defScope (topS 12), fn, gn⟩ d7.body (defBody (topS 12)) = true := by decide +kernel
theorem sc7 : FnScope d7.N (d7.N.take d7.np) (defScope (topS 12)) := ⟨rfl, rfl, rfl, by decide +kernel, rfl, by decide +kernel, by decide +kernel⟩
theorem ok8 : okSs ⟨d8.N, defScope (topS 14), fn, gn⟩ d8.body (defBody (topS 14)) = true := by decide +kernel
theorem sc8 : FnScope d8.N (d8.N.take d8.np) (defScope (topS 14)) := ⟨rfl, rfl, rfl, by decide +kernel, rfl, by decide +kernel, by decide +kernel⟩
theorem ok9 : okSs ⟨d9.N, defScope (topS 15), fn, gn⟩ d9.body (defBody (topS 15)) = true := by decide +kernel
theorem sc9 : FnScope d9.N (d9.N.take d9.np) (defScope (topS 15)) := ⟨rfl, rfl, rfl, by decide +kernel, rfl, by decide +kernel, by decide +kernel⟩
theorem ok10 : okSs ⟨d10.N, defScope (topS 16), fn, gn⟩ d10.body (defBody (topS 16)) = true := by decide +kernel
theorem sc10 : FnScope d10.N (d10.N.take d10.np) (defScope (topS 16)) := ⟨rfl, rfl, rfl, by decide +kernel, rfl, by decide +kernel, by decide +kernel⟩
theorem ok11 : okSs ⟨d11.N, defScope (topS 17), fn, gn⟩ d11.body (defBody (topS 17)) = true := by decide +kernel
theorem sc11 : FnScope d11.N (d11.N.take d11.np) (defScope (topS 17)) := ⟨rfl, rfl, rfl, by decide +kernel, rfl, by decide +kernel, by decide +kernel⟩
theorem ok12 : okSs ⟨d12.N, defScope (topS 18), fn, gn⟩ d12.body (defBody (topS 18)) = true := by decide +kernel
theorem sc12 : FnScope d12.N (d12.N.take d12.np) (defScope (topS 18)) := ⟨rfl, rfl, rfl, by decide +kernel, rfl, by decide +kernel, by decide +kernel⟩
theorem ok13 : okSs ⟨d13.N, defScope (topS 19), fn, gn⟩ d13.body (defBody (topS 19)) = true := by decide +kernel
theorem sc13 : FnScope d13.N (d13.N.take d13.np) (defScope (topS 19)) := ⟨rfl, rfl, rfl, by decide +kernel, rfl, by decide +kernel, by decide +kernel⟩
theorem ok14 : okSs ⟨d14.N, defScope (topS 20), fn, gn⟩ d14.body (defBody (topS 20)) = true := by decide +kernel
theorem sc14 : FnScope d14.N (d14.N.take d14.np) (defScope (topS 20)) := ⟨rfl, rfl, rfl, by decide +kernel, rfl, by decide +kernel, by decide +kernel⟩
theorem ok15 : okSs ⟨d15.N, defScope (topS 21), fn, gn⟩ d15.body (defBody (topS 21)) = true := by decide +kernel
theorem sc15 : FnScope d15.N (d15.N.take d15.np) (defScope (topS 21)) := ⟨rfl, rfl, rfl, by decide +kernel, rfl, by decide +kernel, by decide +kernel⟩
theorem ok16 : okSs ⟨d16.N, defScope (topS 22), fn, gn⟩ d16.body (defBody (topS 22)) = true := by decide +kernel
theorem sc16 : FnScope d16.N (d16.N.take d16.np) (defScope (topS 22)) := ⟨rfl, rfl, rfl, by decide +kernel, rfl, by decide +kernel, by decide +kernel⟩
theorem all_mk {l : PySem.W.OpenLaw} {w : World} {K : PySem.W.Frag} {h : Heap} {mg : Str → Option Value} {fa : Addr} (X : K.In h) (G : h.Ns mainGlobals mg) (hfa : mg "law" = some (.ref fa))
    {f0 f1 f2 f3 f4 f5 f6 f7 f8 f9 f10 f11 f12 f13 f14 f15 f16 : Addr} {od0 an0 od1 an1 od2 an2 od3 an3 od4 an4 od5 an5 od6 an6 od7 an7 od8 an8 od9 an9 od10 an10 od11 an11 od12 an12 od13 an13 od14 an14 od15 an15 od16 an16 : Option Addr} {sl0 sl1 sl2 sl3 sl4 sl5 sl6 sl7 sl8 sl9 sl10 sl11 sl12 sl13 sl14 sl15 sl16 : Array (Option Value)} {oc0 kV0 dc0 pm0 cd0 ct0 oc1 kV1 dc1 pm1 cd1 ct1 oc2 kV2 dc2 pm2 cd2 ct2 oc3 kV3 dc3 pm3 cd3 ct3 oc4 kV4 dc4 pm4 cd4 ct4 oc5 kV5 dc5 pm5 cd5 ct5 oc6 kV6 dc6 pm6 cd6 ct6 oc7 kV7 dc7 pm7 cd7 ct7 oc8 kV8 dc8 pm8 cd8 ct8 oc9 kV9 dc9 pm9 cd9 ct9 oc10 kV10 dc10 pm10 cd10 ct10 oc11 kV11 dc11 pm11 cd11 ct11 oc12 kV12 dc12 pm12 cd12 ct12 oc13 kV13 dc13 pm13 cd13 ct13 oc14 kV14 dc14 pm14 cd14 ct14 oc15 kV15 dc15 pm15 cd15 ct15 oc16 kV16 dc16 pm16 cd16 ct16 : Value}
    (a0 : PySem.W.nsIn K mainGlobals "signs_fit" = some (some (.ref f0))) (l0 : K.lookup f0 = some ⟨oc0, od0, .func (PySem.W.fnOf "signs_fit" "signs_fit" (defArgs (topS 5)) (defBody (topS 5)) (defScope (topS 5)) .none kV0 dc0 pm0 an0 cd0 ct0), sl0⟩) (e0 : PySem.W.codeIn K cd0 "signs_fit" = true) (k0 : PySem.W.keepIn K (.ref f0) = true)
    (a1 : PySem.W.nsIn K mainGlobals "is_cube" = some (some (.ref f1))) (l1 : K.lookup f1 = some ⟨oc1, od1, .func (PySem.W.fnOf "is_cube" "is_cube" (defArgs (topS 6)) (defBody (topS 6)) (defScope (topS 6)) .none kV1 dc1 pm1 an1 cd1 ct1), sl1⟩) (e1 : PySem.W.codeIn K cd1 "is_cube" = true) (k1 : PySem.W.keepIn K (.ref f1) = true)
    (a2 : PySem.W.nsIn K mainGlobals "some_size" = some (some (.ref f2))) (l2 : K.lookup f2 = some ⟨oc2, od2, .func (PySem.W.fnOf "some_size" "some_size" (defArgs (topS 7)) (defBody (topS 7)) (defScope (topS 7)) .none kV2 dc2 pm2 an2 cd2 ct2), sl2⟩) (e2 : PySem.W.codeIn K cd2 "some_size" = true) (k2 : PySem.W.keepIn K (.ref f2) = true)
    (a3 : PySem.W.nsIn K mainGlobals "check_cube" = some (some (.ref f3))) (l3 : K.lookup f3 = some ⟨oc3, od3, .func (PySem.W.fnOf "check_cube" "check_cube" (defArgs (topS 8)) (defBody (topS 8)) (defScope (topS 8)) .none kV3 dc3 pm3 an3 cd3 ct3), sl3⟩) (e3 : PySem.W.codeIn K cd3 "check_cube" = true) (k3 : PySem.W.keepIn K (.ref f3) = true)
    (a4 : PySem.W.nsIn K mainGlobals "check_pair" = some (some (.ref f4))) (l4 : K.lookup f4 = some ⟨oc4, od4, .func (PySem.W.fnOf "check_pair" "check_pair" (defArgs (topS 9)) (defBody (topS 9)) (defScope (topS 9)) .none kV4 dc4 pm4 an4 cd4 ct4), sl4⟩) (e4 : PySem.W.codeIn K cd4 "check_pair" = true) (k4 : PySem.W.keepIn K (.ref f4) = true)
    (a5 : PySem.W.nsIn K mainGlobals "opposed" = some (some (.ref f5))) (l5 : K.lookup f5 = some ⟨oc5, od5, .func (PySem.W.fnOf "opposed" "opposed" (defArgs (topS 10)) (defBody (topS 10)) (defScope (topS 10)) .none kV5 dc5 pm5 an5 cd5 ct5), sl5⟩) (e5 : PySem.W.codeIn K cd5 "opposed" = true) (k5 : PySem.W.keepIn K (.ref f5) = true)
    (a6 : PySem.W.nsIn K mainGlobals "merged" = some (some (.ref f6))) (l6 : K.lookup f6 = some ⟨oc6, od6, .func (PySem.W.fnOf "merged" "merged" (defArgs (topS 11)) (defBody (topS 11)) (defScope (topS 11)) .none kV6 dc6 pm6 an6 cd6 ct6), sl6⟩) (e6 : PySem.W.codeIn K cd6 "merged" = true) (k6 : PySem.W.keepIn K (.ref f6) = true)
    (a7 : PySem.W.nsIn K mainGlobals "consensus" = some (some (.ref f7))) (l7 : K.lookup f7 = some ⟨oc7, od7, .func (PySem.W.fnOf "consensus" "consensus" (defArgs (topS 12)) (defBody (topS 12)) (defScope (topS 12)) .none kV7 dc7 pm7 an7 cd7 ct7), sl7⟩) (e7 : PySem.W.codeIn K cd7 "consensus" = true) (k7 : PySem.W.keepIn K (.ref f7) = true)
    (a8 : PySem.W.nsIn K mainGlobals "_law_mixed" = some (some (.ref f8))) (l8 : K.lookup f8 = some ⟨oc8, od8, .func (PySem.W.fnOf "_law_mixed" "_law_mixed" (defArgs (topS 14)) (defBody (topS 14)) (defScope (topS 14)) .none kV8 dc8 pm8 an8 cd8 ct8), sl8⟩) (e8 : PySem.W.codeIn K cd8 "_law_mixed" = true) (k8 : PySem.W.keepIn K (.ref f8) = true)
    (a9 : PySem.W.nsIn K mainGlobals "_law_draws" = some (some (.ref f9))) (l9 : K.lookup f9 = some ⟨oc9, od9, .func (PySem.W.fnOf "_law_draws" "_law_draws" (defArgs (topS 15)) (defBody (topS 15)) (defScope (topS 15)) .none kV9 dc9 pm9 an9 cd9 ct9), sl9⟩) (e9 : PySem.W.codeIn K cd9 "_law_draws" = true) (k9 : PySem.W.keepIn K (.ref f9) = true)
    (a10 : PySem.W.nsIn K mainGlobals "_law_strings" = some (some (.ref f10))) (l10 : K.lookup f10 = some ⟨oc10, od10, .func (PySem.W.fnOf "_law_strings" "_law_strings" (defArgs (topS 16)) (defBody (topS 16)) (defScope (topS 16)) .none kV10 dc10 pm10 an10 cd10 ct10), sl10⟩) (e10 : PySem.W.codeIn K cd10 "_law_strings" = true) (k10 : PySem.W.keepIn K (.ref f10) = true)
    (a11 : PySem.W.nsIn K mainGlobals "_law_in" = some (some (.ref f11))) (l11 : K.lookup f11 = some ⟨oc11, od11, .func (PySem.W.fnOf "_law_in" "_law_in" (defArgs (topS 17)) (defBody (topS 17)) (defScope (topS 17)) .none kV11 dc11 pm11 an11 cd11 ct11), sl11⟩) (e11 : PySem.W.codeIn K cd11 "_law_in" = true) (k11 : PySem.W.keepIn K (.ref f11) = true)
    (a12 : PySem.W.nsIn K mainGlobals "_law_cube" = some (some (.ref f12))) (l12 : K.lookup f12 = some ⟨oc12, od12, .func (PySem.W.fnOf "_law_cube" "_law_cube" (defArgs (topS 18)) (defBody (topS 18)) (defScope (topS 18)) .none kV12 dc12 pm12 an12 cd12 ct12), sl12⟩) (e12 : PySem.W.codeIn K cd12 "_law_cube" = true) (k12 : PySem.W.keepIn K (.ref f12) = true)
    (a13 : PySem.W.nsIn K mainGlobals "_law_near" = some (some (.ref f13))) (l13 : K.lookup f13 = some ⟨oc13, od13, .func (PySem.W.fnOf "_law_near" "_law_near" (defArgs (topS 19)) (defBody (topS 19)) (defScope (topS 19)) .none kV13 dc13 pm13 an13 cd13 ct13), sl13⟩) (e13 : PySem.W.codeIn K cd13 "_law_near" = true) (k13 : PySem.W.keepIn K (.ref f13) = true)
    (a14 : PySem.W.nsIn K mainGlobals "_law_in_both" = some (some (.ref f14))) (l14 : K.lookup f14 = some ⟨oc14, od14, .func (PySem.W.fnOf "_law_in_both" "_law_in_both" (defArgs (topS 20)) (defBody (topS 20)) (defScope (topS 20)) .none kV14 dc14 pm14 an14 cd14 ct14), sl14⟩) (e14 : PySem.W.codeIn K cd14 "_law_in_both" = true) (k14 : PySem.W.keepIn K (.ref f14) = true)
    (a15 : PySem.W.nsIn K mainGlobals "_law_right" = some (some (.ref f15))) (l15 : K.lookup f15 = some ⟨oc15, od15, .func (PySem.W.fnOf "_law_right" "_law_right" (defArgs (topS 21)) (defBody (topS 21)) (defScope (topS 21)) .none kV15 dc15 pm15 an15 cd15 ct15), sl15⟩) (e15 : PySem.W.codeIn K cd15 "_law_right" = true) (k15 : PySem.W.keepIn K (.ref f15) = true)
    (a16 : PySem.W.nsIn K mainGlobals "law" = some (some (.ref f16))) (l16 : K.lookup f16 = some ⟨oc16, od16, .func (PySem.W.fnOf "law" "law" (defArgs (topS 22)) (defBody (topS 22)) (defScope (topS 22)) .none kV16 dc16 pm16 an16 cd16 ct16), sl16⟩) (e16 : PySem.W.codeIn K cd16 "law" = true) (k16 : PySem.W.keepIn K (.ref f16) = true)
    (z0 : PySem.W.nsIn K mainGlobals "len" = some none)
    (z1 : PySem.W.nsIn K mainGlobals "int" = some none)
    (z2 : PySem.W.nsIn K mainGlobals "isinstance" = some none)
    (z3 : PySem.W.nsIn K mainGlobals "str" = some none)
    (z4 : PySem.W.nsIn K mainGlobals "bool" = some none)
    (z5 : PySem.W.nsIn K mainGlobals "list" = some none)
    (z6 : PySem.W.nsIn K mainGlobals "tuple" = some none)
    (z7 : PySem.W.nsIn K mainGlobals "range" = some none)
    (z8 : PySem.W.nsIn K mainGlobals "enumerate" = some none)
    {tk0 : Tok}
    (q0 : PySem.W.nsIn K mainGlobals "MOST_INPUTS" = some (some (.int 4 tk0)))
    : ∃ fd : FuncData, (∀ (s : Shared) (v : Value), BindsTo s fd ⟨[v], []⟩ [("_law_script", v)]) ∧ ∀ base : Heap, K.In base → base.Ns mainGlobals mg → FnOk l.prog w K mg base CX0 10 fa fd ["_law_script"] (spOf K 1 (run gcs tab 10 16)) := by
  have e := hfa.symm.trans (PySem.W.mg_of X G a16)
  cases e
  have F0 := fun_mk (st := topS 5) l0 e0 k0
  have b0 : Binds K _ (d0.N.take d0.np) [] := F0.binds (ps := ["thing", "n", "signs"]) fun _ _ _ _ _ _ us hl => match us, hl with | [_, _, _], _ => rfl
  have F1 := fun_mk (st := topS 6) l1 e1 k1
  have b1 : Binds K _ (d1.N.take d1.np) [] := F1.binds (ps := ["thing", "n"]) fun _ _ _ _ _ _ us hl => match us, hl with | [_, _], _ => rfl
  have F2 := fun_mk (st := topS 7) l2 e2 k2
  have b2 : Binds K _ (d2.N.take d2.np) [] := F2.binds (ps := ["thing"]) fun _ _ _ _ _ _ us hl => match us, hl with | [_], _ => rfl
  have F3 := fun_mk (st := topS 8) l3 e3 k3
  have b3 : Binds K _ (d3.N.take d3.np) [] := F3.binds (ps := ["thing"]) fun _ _ _ _ _ _ us hl => match us, hl with | [_], _ => rfl
  have F4 := fun_mk (st := topS 9) l4 e4 k4
  have b4 : Binds K _ (d4.N.take d4.np) [] := F4.binds (ps := ["c", "d"]) fun _ _ _ _ _ _ us hl => match us, hl with | [_, _], _ => rfl
  have F5 := fun_mk (st := topS 10) l5 e5 k5
  have b5 : Binds K _ (d5.N.take d5.np) [] := F5.binds (ps := ["c", "d"]) fun _ _ _ _ _ _ us hl => match us, hl with | [_, _], _ => rfl
  have F6 := fun_mk (st := topS 11) l6 e6 k6
  have b6 : Binds K _ (d6.N.take d6.np) [] := F6.binds (ps := ["c", "d"]) fun _ _ _ _ _ _ us hl => match us, hl with | [_, _], _ => rfl
  have F7 := fun_mk (st := topS 12) l7 e7 k7
  have b7 : Binds K _ (d7.N.take d7.np) [] := F7.binds (ps := ["c", "d"]) fun _ _ _ _ _ _ us hl => match us, hl with | [_, _], _ => rfl
  have F8 := fun_mk (st := topS 14) l8 e8 k8
  have b8 : Binds K _ (d8.N.take d8.np) [] := F8.binds (ps := ["_law_seed", "_law_k"]) fun _ _ _ _ _ _ us hl => match us, hl with | [_, _], _ => rfl
  have F9 := fun_mk (st := topS 15) l9 e9 k9
  have b9 : Binds K _ (d9.N.take d9.np) [] := F9.binds (ps := ["_law_script", "_law_many"]) fun _ _ _ _ _ _ us hl => match us, hl with | [_, _], _ => rfl
  have F10 := fun_mk (st := topS 16) l10 e10 k10
  have b10 : Binds K _ (d10.N.take d10.np) [] := F10.binds (ps := ["_law_n", "_law_signs"]) fun _ _ _ _ _ _ us hl => match us, hl with | [_, _], _ => rfl
  have F11 := fun_mk (st := topS 17) l11 e11 k11
  have b11 : Binds K _ (d11.N.take d11.np) [] := F11.binds (ps := ["_law_cube_here", "_law_inner"]) fun _ _ _ _ _ _ us hl => match us, hl with | [_, _], _ => rfl
  have F12 := fun_mk (st := topS 18) l12 e12 k12
  have b12 : Binds K _ (d12.N.take d12.np) [] := F12.binds (ps := ["_law_number", "_law_n"]) fun _ _ _ _ _ _ us hl => match us, hl with | [_, _], _ => rfl
  have F13 := fun_mk (st := topS 19) l13 e13 k13
  have b13 : Binds K _ (d13.N.take d13.np) [] := F13.binds (ps := ["_law_c", "_law_d", "_law_at"]) fun _ _ _ _ _ _ us hl => match us, hl with | [_, _, _], _ => rfl
  have F14 := fun_mk (st := topS 20) l14 e14 k14
  have b14 : Binds K _ (d14.N.take d14.np) [] := F14.binds (ps := ["_law_c", "_law_d", "_law_cube_here"]) fun _ _ _ _ _ _ us hl => match us, hl with | [_, _, _], _ => rfl
  have F15 := fun_mk (st := topS 21) l15 e15 k15
  have b15 : Binds K _ (d15.N.take d15.np) [] := F15.binds (ps := ["_law_c", "_law_d", "_law_told"]) fun _ _ _ _ _ _ us hl => match us, hl with | [_, _, _], _ => rfl
  have F16 := fun_mk (st := topS 22) l16 e16 k16
  have b16 : Binds K _ (d16.N.take d16.np) [] := F16.binds (ps := ["_law_script"]) fun _ _ _ _ _ _ us hl => match us, hl with | [_], _ => rfl
  have p : Prg K mg tab fn gn gcs := {
    fns := fun j x hx => by
      match j, hx with
      | 0, hx => cases hx; exact ⟨d0, topS 5, _, _, _, rfl, F0, PySem.W.mg_of X G a0, b0, by decide, sc0, ok0⟩
      | 1, hx => cases hx; exact ⟨d1, topS 6, _, _, _, rfl, F1, PySem.W.mg_of X G a1, b1, by decide, sc1, ok1⟩
      | 2, hx => cases hx; exact ⟨d2, topS 7, _, _, _, rfl, F2, PySem.W.mg_of X G a2, b2, by decide, sc2, ok2⟩
      | 3, hx => cases hx; exact ⟨d3, topS 8, _, _, _, rfl, F3, PySem.W.mg_of X G a3, b3, by decide, sc3, ok3⟩
      | 4, hx => cases hx; exact ⟨d4, topS 9, _, _, _, rfl, F4, PySem.W.mg_of X G a4, b4, by decide, sc4, ok4⟩
      | 5, hx => cases hx; exact ⟨d5, topS 10, _, _, _, rfl, F5, PySem.W.mg_of X G a5, b5, by decide, sc5, ok5⟩
      | 6, hx => cases hx; exact ⟨d6, topS 11, _, _, _, rfl, F6, PySem.W.mg_of X G a6, b6, by decide, sc6, ok6⟩
      | 7, hx => cases hx; exact ⟨d7, topS 12, _, _, _, rfl, F7, PySem.W.mg_of X G a7, b7, by decide, sc7, ok7⟩
      | 8, hx => cases hx; exact ⟨d8, topS 14, _, _, _, rfl, F8, PySem.W.mg_of X G a8, b8, by decide, sc8, ok8⟩
      | 9, hx => cases hx; exact ⟨d9, topS 15, _, _, _, rfl, F9, PySem.W.mg_of X G a9, b9, by decide, sc9, ok9⟩
      | 10, hx => cases hx; exact ⟨d10, topS 16, _, _, _, rfl, F10, PySem.W.mg_of X G a10, b10, by decide, sc10, ok10⟩
      | 11, hx => cases hx; exact ⟨d11, topS 17, _, _, _, rfl, F11, PySem.W.mg_of X G a11, b11, by decide, sc11, ok11⟩
      | 12, hx => cases hx; exact ⟨d12, topS 18, _, _, _, rfl, F12, PySem.W.mg_of X G a12, b12, by decide, sc12, ok12⟩
      | 13, hx => cases hx; exact ⟨d13, topS 19, _, _, _, rfl, F13, PySem.W.mg_of X G a13, b13, by decide, sc13, ok13⟩
      | 14, hx => cases hx; exact ⟨d14, topS 20, _, _, _, rfl, F14, PySem.W.mg_of X G a14, b14, by decide, sc14, ok14⟩
      | 15, hx => cases hx; exact ⟨d15, topS 21, _, _, _, rfl, F15, PySem.W.mg_of X G a15, b15, by decide, sc15, ok15⟩
      | 16, hx => cases hx; exact ⟨d16, topS 22, _, _, _, rfl, F16, PySem.W.mg_of X G a16, b16, by decide, sc16, ok16⟩
      | j + 17, hx => cases hx
    blt := fun x hx => by
      simp only [bltNames, List.mem_cons, List.not_mem_nil, or_false] at hx
      rcases hx with rfl | rfl | rfl | rfl | rfl | rfl | rfl | rfl | rfl
      · exact PySem.W.mg_none_of X G z0
      · exact PySem.W.mg_none_of X G z1
      · exact PySem.W.mg_none_of X G z2
      · exact PySem.W.mg_none_of X G z3
      · exact PySem.W.mg_none_of X G z4
      · exact PySem.W.mg_none_of X G z5
      · exact PySem.W.mg_none_of X G z6
      · exact PySem.W.mg_none_of X G z7
      · exact PySem.W.mg_none_of X G z8
    gc := fun j x hx => by
      match j, hx with
      | 0, hx => cases hx; exact ⟨.int 4, _, .int 4, PySem.W.mg_of X G q0, ⟨_, rfl⟩, rfl, fun M H => mkI _⟩
      | j + 1, hx => cases hx }
  exact ⟨_, fun s v => .of_eq rfl, fun base _ _ => snd_run p 10 16 "law" rfl d16 (topS 22) _ _ _ rfl F16 (by decide) sc16 ok16⟩
end Lw
open PySem PySem.W PyProof.Rows
set_option maxHeartbeats 0 in
theorem PySem.Challenge.cw_steadycover_k04_whole_consensus_holds : PySem.Challenge.rw_steadycover_k04_whole_consensus.Holds := by
  w_on; o_law; k_head; (case hw => w_witness2)
  k_fill
  refine L2.walk_ofK (l := PySem.Challenge.rw_steadycover_k04_whole_consensus) (n := 63) (k := 10) (x := "_law_script") (CX := L2.CX0) (sp := fun K => OI.spOf K 1 (OI.run Lw.gcs Lw.tab 10 16)) rfl (by decide) rfl ⟨rfl, by decide, by decide⟩ (fun w h Y => PySem.W.kIn_of Y) ?F (fun K H a ns hl _ hS => OI.sp_law (Lw.holds ns hl) hS) (fun _ _ _ _ h => h)
  case F =>
    intro w mg fa h KX G hmg
    refine' Lw.all_mk KX G hmg ?a0 ?l0 ?e0 ?k0 ?a1 ?l1 ?e1 ?k1 ?a2 ?l2 ?e2 ?k2 ?a3 ?l3 ?e3 ?k3 ?a4 ?l4 ?e4 ?k4 ?a5 ?l5 ?e5 ?k5 ?a6 ?l6 ?e6 ?k6 ?a7 ?l7 ?e7 ?k7 ?a8 ?l8 ?e8 ?k8 ?a9 ?l9 ?e9 ?k9 ?a10 ?l10 ?e10 ?k10 ?a11 ?l11 ?e11 ?k11 ?a12 ?l12 ?e12 ?k12 ?a13 ?l13 ?e13 ?k13 ?a14 ?l14 ?e14 ?k14 ?a15 ?l15 ?e15 ?k15 ?a16 ?l16 ?e16 ?k16 ?z0 ?z1 ?z2 ?z3 ?z4 ?z5 ?z6 ?z7 ?z8 ?q0
    (case a0 => k_is); (case l0 => k_is); (case e0 => k_is); (case k0 => k_is); (case a1 => k_is); (case l1 => k_is); (case e1 => k_is); (case k1 => k_is); (case a2 => k_is); (case l2 => k_is); (case e2 => k_is); (case k2 => k_is); (case a3 => k_is); (case l3 => k_is); (case e3 => k_is); (case k3 => k_is); (case a4 => k_is); (case l4 => k_is); (case e4 => k_is); (case k4 => k_is); (case a5 => k_is); (case l5 => k_is); (case e5 => k_is); (case k5 => k_is); (case a6 => k_is); (case l6 => k_is); (case e6 => k_is); (case k6 => k_is); (case a7 => k_is); (case l7 => k_is); (case e7 => k_is); (case k7 => k_is); (case a8 => k_is); (case l8 => k_is); (case e8 => k_is); (case k8 => k_is); (case a9 => k_is); (case l9 => k_is); (case e9 => k_is); (case k9 => k_is); (case a10 => k_is); (case l10 => k_is); (case e10 => k_is); (case k10 => k_is); (case a11 => k_is); (case l11 => k_is); (case e11 => k_is); (case k11 => k_is); (case a12 => k_is); (case l12 => k_is); (case e12 => k_is); (case k12 => k_is); (case a13 => k_is); (case l13 => k_is); (case e13 => k_is); (case k13 => k_is); (case a14 => k_is); (case l14 => k_is); (case e14 => k_is); (case k14 => k_is); (case a15 => k_is); (case l15 => k_is); (case e15 => k_is); (case k15 => k_is); (case a16 => k_is); (case l16 => k_is); (case e16 => k_is); (case k16 => k_is); (case z0 => k_is); (case z1 => k_is); (case z2 => k_is); (case z3 => k_is); (case z4 => k_is); (case z5 => k_is); (case z6 => k_is); (case z7 => k_is); (case z8 => k_is); (case q0 => k_is)
