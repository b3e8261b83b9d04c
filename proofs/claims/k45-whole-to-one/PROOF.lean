import PyProof.Rows.All
import Wide.All
import OpenK.AllK
import Wide.FinOn
import HandS.ForMost
import HandS.Codes
import HandS.IsInst
import HandS.Deep
import HandS.Style
import HandS.TupLe
import HandS.RaiseMore
import HandS.More
import HandS.DictComp
import HandS.Walk
import HandS.Zip
import HandS.Conv
import KE.GoesEnum
import HandS.ListItems
import KE.KDictCopyH
import HandS.Set
import HandS.SetFor
import HandS.SetKeys
import HandS.Keys
import HandS.TupSets
import KE.KDictKeyed
import KE.KDictDisplayH
import PySem.Challenge.RW_twoworlds_k45_whole_to_one
set_option Elab.async false
set_option linter.all false
section
namespace K45
/-! ## words of indices, their order by a number (bijective base m) -/
def code (m : Nat) (w : List Nat) : Nat := w.foldl (fun c i => c * m + i + 1) 0
theorem code_nil (m : Nat) : code m [] = 0 := rfl
theorem code_snoc (m : Nat) (w : List Nat) (a : Nat) : code m (w ++ [a]) = code m w * m + a + 1 := by
  simp [code, List.foldl_append]
def Lets (m : Nat) (w : List Nat) : Prop := ∀ x ∈ w, x < m
theorem lets_nil (m : Nat) : Lets m [] := by simp [Lets]
theorem lets_snoc {m : Nat} {w : List Nat} {a : Nat} : Lets m (w ++ [a]) ↔ Lets m w ∧ a < m := by
  simp [Lets, List.mem_append, or_imp, forall_and]
theorem code_lt_snoc {m : Nat} {u v : List Nat} {a b : Nat} (h : code m u < code m v) (hb : b < m) : code m (u ++ [b]) < code m (v ++ [a]) := by
  rw [code_snoc, code_snoc]
  have : (code m u + 1) * m ≤ code m v * m := Nat.mul_le_mul_right m h
  rw [Nat.add_mul] at this
  omega
theorem code_le_snoc {m : Nat} {u v : List Nat} {a : Nat} (h : code m u ≤ code m v) : code m (u ++ [a]) ≤ code m (v ++ [a]) := by
  rw [code_snoc, code_snoc]
  have := Nat.mul_le_mul_right m h
  omega
theorem code_self_snoc {m : Nat} {u : List Nat} {a : Nat} (hm : 0 < m) : code m u < code m (u ++ [a]) := by
  rw [code_snoc]
  have := Nat.le_mul_of_pos_right (code m u) hm
  omega
theorem snoc_or : ∀ (l : List Nat), l = [] ∨ ∃ u a, l = u ++ [a] := fun l => by
  rcases List.eq_nil_or_concat l with h | ⟨u, a, h⟩
  · exact .inl h
  · exact .inr ⟨u, a, by simpa using h⟩
theorem code_inj {m : Nat} : ∀ (n : Nat) (u v : List Nat), u.length ≤ n → Lets m u → Lets m v → code m u = code m v → u = v := by
  intro n
  induction n with
  | zero =>
    intro u v hl hu hv e
    have : u = [] := List.length_eq_zero_iff.mp (by omega)
    subst this
    rcases snoc_or v with rfl | ⟨v', b, rfl⟩
    · rfl
    · rw [code_snoc] at e; simp [code] at e
  | succ n ih =>
    intro u v hl hu hv e
    rcases snoc_or u with rfl | ⟨u', a, rfl⟩
    · rcases snoc_or v with rfl | ⟨v', b, rfl⟩
      · rfl
      · rw [code_snoc] at e; simp [code] at e
    · rcases snoc_or v with rfl | ⟨v', b, rfl⟩
      · rw [code_snoc] at e; simp [code] at e
      · have ha := lets_snoc.mp hu
        have hb := lets_snoc.mp hv
        rw [code_snoc, code_snoc] at e
        have e1 : code m u' * m + a = code m v' * m + b := by omega
        have m0 : 0 < m := by omega
        have q1 : (code m u' * m + a) / m = code m u' := by
          rw [Nat.add_comm, Nat.add_mul_div_right _ _ m0, Nat.div_eq_of_lt ha.2, Nat.zero_add]
        have q2 : (code m v' * m + b) / m = code m v' := by
          rw [Nat.add_comm, Nat.add_mul_div_right _ _ m0, Nat.div_eq_of_lt hb.2, Nat.zero_add]
        have e2 : code m u' = code m v' := by rw [← q1, ← q2, e1]
        have e3 : a = b := by rw [e2] at e1; omega
        rw [ih u' v' (by simp at hl; omega) ha.1 hb.1 e2, e3]
/-! lengths -/
def lo (m : Nat) : Nat → Nat
  | 0 => 0
  | l + 1 => lo m l * m + 1
theorem code_ge_lo {m : Nat} : ∀ (n : Nat) (u : List Nat), u.length = n → lo m n ≤ code m u := by
  intro n
  induction n with
  | zero => intro u _; exact Nat.zero_le _
  | succ n ih =>
    intro u hl
    rcases snoc_or u with rfl | ⟨u', a, rfl⟩
    · simp at hl
    · rw [code_snoc]
      have := ih u' (by simp at hl; omega)
      have := Nat.mul_le_mul_right m this
      show lo m n * m + 1 ≤ _
      omega
theorem code_lt_lo {m : Nat} : ∀ (n : Nat) (u : List Nat), u.length = n → Lets m u → code m u < lo m (n + 1) := by
  intro n
  induction n with
  | zero =>
    intro u hl _
    have : u = [] := List.length_eq_zero_iff.mp hl
    subst this
    simp [code, lo]
  | succ n ih =>
    intro u hl hu
    rcases snoc_or u with rfl | ⟨u', a, rfl⟩
    · simp at hl
    · have hu := lets_snoc.mp hu
      rw [code_snoc]
      have h := ih u' (by simp at hl; omega) hu.1
      have := Nat.mul_le_mul_right m (show code m u' + 1 ≤ lo m (n + 1) from h)
      rw [Nat.add_mul] at this
      show _ < lo m (n + 1) * m + 1
      omega
theorem lo_mono {m : Nat} (hm : 0 < m) : ∀ (a b : Nat), a ≤ b → lo m a ≤ lo m b := by
  intro a b h
  induction h with
  | refl => exact Nat.le_refl _
  | step _ ih =>
    rename_i b _
    show _ ≤ lo m b * m + 1
    have := Nat.le_mul_of_pos_right (lo m b) hm
    omega
theorem len_of_code {m : Nat} (hm : 0 < m) {u v : List Nat} (hu : Lets m v) (h : code m u ≤ code m v) : u.length ≤ v.length := by
  apply Nat.le_of_not_lt
  intro hlt
  have h1 := code_lt_lo v.length v rfl hu
  have h2 := code_ge_lo (m := m) u.length u rfl
  have h3 := lo_mono hm (v.length + 1) u.length hlt
  omega
/-- the first word of a kind -/
def First (m : Nat) (P : List Nat → Prop) (w : List Nat) : Prop := Lets m w ∧ P w ∧ ∀ x, Lets m x → P x → code m w ≤ code m x
theorem First.uniq {m : Nat} {P : List Nat → Prop} {u v : List Nat} (a : First m P u) (b : First m P v) : u = v :=
  code_inj _ u v (Nat.le_refl _) a.1 b.1 (Nat.le_antisymm (a.2.2 v b.1 b.2.1) (b.2.2 u a.1 a.2.1))
theorem First.congr {m : Nat} {P Q : List Nat → Prop} {u : List Nat} (h : ∀ x, Lets m x → (P x ↔ Q x)) (a : First m P u) : First m Q u :=
  ⟨a.1, (h u a.1).mp a.2.1, fun x hx q => a.2.2 x hx ((h x hx).mpr q)⟩
/-! ## the search, breadth first -/
section
variable {κ : Type}
structure Bfs (m : Nat) (step : κ → Nat → κ) (goal : κ → Prop) (k0 : κ) (all : List (κ × List Nat)) (p i : Nat) : Prop where
  first : all[0]? = some (k0, [])
  run : ∀ e ∈ all, Lets m e.2 ∧ e.2.foldl step k0 = e.1
  ord : ∀ (j j' : Nat) (e e' : κ × List Nat), all[j]? = some e → all[j']? = some e' → j < j' → code m e.2 < code m e'.2
  par : ∀ e ∈ all, e.2 = [] ∨ ∃ (j : Nat) (f : κ × List Nat) (b : Nat), all[j]? = some f ∧ (j < p ∧ b < m ∨ j = p ∧ b < i) ∧ e.2 = f.2 ++ [b]
  done : ∀ (j : Nat) (f : κ × List Nat), all[j]? = some f → j < p → ¬ goal f.1 ∧ ∀ b, b < m → ∃ e ∈ all, e.1 = step f.1 b ∧ code m e.2 ≤ code m (f.2 ++ [b])
  part : ∀ (f : κ × List Nat), all[p]? = some f → ∀ b, b < i → ∃ e ∈ all, e.1 = step f.1 b ∧ code m e.2 ≤ code m (f.2 ++ [b])
variable {m : Nat} {step : κ → Nat → κ} {goal : κ → Prop} {k0 : κ} {all : List (κ × List Nat)} {p i : Nat}
theorem Bfs.init : Bfs m step goal k0 [(k0, [])] 0 0 where
  first := rfl
  run := fun e he => by
    simp at he; subst he
    exact ⟨lets_nil m, rfl⟩
  ord := fun j j' e e' h h' hl => by
    have h1 := (List.getElem?_eq_some_iff.mp h).1
    have h2 := (List.getElem?_eq_some_iff.mp h').1
    simp at h1 h2; omega
  par := fun e he => by
    simp at he; subst he
    exact .inl rfl
  done := fun j f _ h => absurd h (by omega)
  part := fun f _ b h => absurd h (by omega)
theorem Bfs.lt_new (B : Bfs m step goal k0 all p i) {f : κ × List Nat} (hf : all[p]? = some f) (hm : 0 < m) : ∀ e ∈ all, code m e.2 < code m (f.2 ++ [i]) := by
  intro e he
  rcases B.par e he with h | ⟨j, g, b, hg, hjb, h⟩
  · rw [h, code_nil, code_snoc]; omega
  · rw [h]
    rcases hjb with ⟨hj, hb⟩ | ⟨rfl, hb⟩
    · exact code_lt_snoc (B.ord j p g f hg hf hj) hb
    · rw [hf] at hg; cases hg
      rw [code_snoc, code_snoc]; omega
theorem Bfs.skip (B : Bfs m step goal k0 all p i) {f : κ × List Nat} (hf : all[p]? = some f) (hi : i < m) (h : ∃ e ∈ all, e.1 = step f.1 i) : Bfs m step goal k0 all p (i + 1) where
  first := B.first
  run := B.run
  ord := B.ord
  par := fun e he => by
    rcases B.par e he with h | ⟨j, g, b, hg, hjb, h⟩
    · exact .inl h
    · refine .inr ⟨j, g, b, hg, ?_, h⟩
      rcases hjb with h | ⟨h1, h2⟩
      · exact .inl h
      · exact .inr ⟨h1, by omega⟩
  done := B.done
  part := fun g hg b hb => by
    rw [hf] at hg; cases hg
    rcases Nat.lt_or_ge b i with h1 | h1
    · exact B.part f hf b h1
    · have : b = i := by omega
      subst this
      obtain ⟨e, he, h2⟩ := h
      exact ⟨e, he, h2, Nat.le_of_lt (B.lt_new hf (by omega) e he)⟩
theorem get_old {α : Type} {l : List α} {x e : α} {j : Nat} (h : (l ++ [x])[j]? = some e) : (j < l.length ∧ l[j]? = some e) ∨ (j = l.length ∧ e = x) := by
  rcases Nat.lt_or_ge j l.length with h1 | h1
  · rw [List.getElem?_append_left h1] at h
    exact .inl ⟨h1, h⟩
  · rw [List.getElem?_append_right h1] at h
    have := (List.getElem?_eq_some_iff.mp h).1
    simp at this
    have e1 : j = l.length := by omega
    subst e1
    simp at h
    exact .inr ⟨rfl, h.symm⟩
theorem get_app {α : Type} {l r : List α} {e : α} {j : Nat} (h : l[j]? = some e) : (l ++ r)[j]? = some e := by
  rw [List.getElem?_append_left (List.getElem?_eq_some_iff.mp h).1]; exact h
theorem Bfs.add (B : Bfs m step goal k0 all p i) {f : κ × List Nat} (hf : all[p]? = some f) (hi : i < m) : Bfs m step goal k0 (all ++ [(step f.1 i, f.2 ++ [i])]) p (i + 1) where
  first := get_app B.first
  run := fun e he => by
    rcases List.mem_append.mp he with he | he
    · exact B.run e he
    · simp at he; subst he
      have := B.run f (List.mem_of_getElem? hf)
      exact ⟨lets_snoc.mpr ⟨this.1, hi⟩, by simp [List.foldl_append, this.2]⟩
  ord := fun j j' e e' h h' hl => by
    rcases get_old h with ⟨h1, h2⟩ | ⟨h1, h2⟩
    · rcases get_old h' with ⟨h3, h4⟩ | ⟨h3, h4⟩
      · exact B.ord j j' e e' h2 h4 hl
      · subst h4
        exact B.lt_new hf (by omega) e (List.mem_of_getElem? h2)
    · rcases get_old h' with ⟨h3, h4⟩ | ⟨h3, h4⟩ <;> omega
  par := fun e he => by
    rcases List.mem_append.mp he with he | he
    · rcases B.par e he with h | ⟨j, g, b, hg, hjb, h⟩
      · exact .inl h
      · refine .inr ⟨j, g, b, get_app hg, ?_, h⟩
        rcases hjb with h | ⟨h1, h2⟩
        · exact .inl h
        · exact .inr ⟨h1, by omega⟩
    · simp at he; subst he
      exact .inr ⟨p, f, i, get_app hf, .inr ⟨rfl, by omega⟩, rfl⟩
  done := fun j g hg hj => by
    rcases get_old hg with ⟨h1, h2⟩ | ⟨h1, h2⟩
    · obtain ⟨a, b⟩ := B.done j g h2 hj
      refine ⟨a, fun c hc => ?_⟩
      obtain ⟨e, he, q⟩ := b c hc
      exact ⟨e, List.mem_append_left _ he, q⟩
    · have := (List.getElem?_eq_some_iff.mp hf).1
      omega
  part := fun g hg b hb => by
    rw [get_app hf] at hg; cases hg
    rcases Nat.lt_or_ge b i with h1 | h1
    · obtain ⟨e, he, q⟩ := B.part f hf b h1
      exact ⟨e, List.mem_append_left _ he, q⟩
    · have : b = i := by omega
      subst this
      exact ⟨(step f.1 b, f.2 ++ [b]), List.mem_append_right _ (by simp), rfl, Nat.le_refl _⟩
theorem Bfs.fin (B : Bfs m step goal k0 all p m) {f : κ × List Nat} (hf : all[p]? = some f) (hg : ¬ goal f.1) : Bfs m step goal k0 all (p + 1) 0 where
  first := B.first
  run := B.run
  ord := B.ord
  par := fun e he => by
    rcases B.par e he with h | ⟨j, g, b, hg, hjb, h⟩
    · exact .inl h
    · refine .inr ⟨j, g, b, hg, .inl ?_, h⟩
      rcases hjb with h | ⟨h1, h2⟩ <;> omega
  done := fun j g h hj => by
    rcases Nat.lt_or_ge j p with h1 | h1
    · exact B.done j g h h1
    · have : j = p := by omega
      subst this
      rw [hf] at h; cases h
      exact ⟨hg, B.part f hf⟩
  part := fun _ _ b hb => absurd hb (by omega)
theorem Bfs.reach (B : Bfs m step goal k0 all p 0) : ∀ (n : Nat) (x : List Nat), x.length = n → Lets m x →
    (∃ e ∈ all, e.1 = x.foldl step k0 ∧ code m e.2 ≤ code m x) ∨ ∃ j e, p ≤ j ∧ all[j]? = some e ∧ code m e.2 ≤ code m x := by
  intro n
  induction n with
  | zero =>
    intro x hl hx
    have : x = [] := List.length_eq_zero_iff.mp hl
    subst this
    exact .inl ⟨(k0, []), List.mem_of_getElem? B.first, rfl, Nat.le_refl _⟩
  | succ n ih =>
    intro x hl hx
    rcases snoc_or x with rfl | ⟨u, a, rfl⟩
    · simp at hl
    · have hx := lets_snoc.mp hx
      have up : code m u ≤ code m (u ++ [a]) := Nat.le_of_lt (code_self_snoc (by omega))
      rcases ih u (by simp at hl; omega) hx.1 with ⟨e, he, h1, h2⟩ | ⟨j, e, h1, h2, h3⟩
      · obtain ⟨j, hj⟩ := List.mem_iff_getElem?.mp he
        rcases Nat.lt_or_ge j p with h3 | h3
        · obtain ⟨e', he', h4, h5⟩ := (B.done j e hj h3).2 a hx.2
          refine .inl ⟨e', he', ?_, Nat.le_trans h5 (code_le_snoc h2)⟩
          rw [h4, h1]
          simp [List.foldl_append]
        · exact .inr ⟨j, e, h3, hj, Nat.le_trans h2 up⟩
      · exact .inr ⟨j, e, h1, h2, Nat.le_trans h3 up⟩
theorem Bfs.le_head (B : Bfs m step goal k0 all p i) {f e : κ × List Nat} {j : Nat} (hf : all[p]? = some f) (hj : p ≤ j) (he : all[j]? = some e) : code m f.2 ≤ code m e.2 := by
  rcases Nat.lt_or_ge p j with h | h
  · exact Nat.le_of_lt (B.ord p j f e hf he h)
  · have : j = p := by omega
    subst this
    rw [hf] at he; cases he
    exact Nat.le_refl _
theorem Bfs.found (B : Bfs m step goal k0 all p 0) {f : κ × List Nat} (hf : all[p]? = some f) (hg : goal f.1) : First m (fun x => goal (x.foldl step k0)) f.2 := by
  have r := B.run f (List.mem_of_getElem? hf)
  refine ⟨r.1, by show goal _; rw [r.2]; exact hg, fun x hx gx => ?_⟩
  rcases B.reach x.length x rfl hx with ⟨e, he, h1, h2⟩ | ⟨j, e, h1, h2, h3⟩
  · obtain ⟨j, hj⟩ := List.mem_iff_getElem?.mp he
    rcases Nat.lt_or_ge j p with h3 | h3
    · exact absurd (by rw [h1]; exact gx) (B.done j e hj h3).1
    · exact Nat.le_trans (B.le_head hf h3 hj) h2
  · exact Nat.le_trans (B.le_head hf h1 h2) h3
theorem Bfs.none (B : Bfs m step goal k0 all p 0) (hp : all.length ≤ p) : ∀ x, Lets m x → ¬ goal (x.foldl step k0) := by
  intro x hx gx
  rcases B.reach x.length x rfl hx with ⟨e, he, h1, h2⟩ | ⟨j, e, h1, h2, h3⟩
  · obtain ⟨j, hj⟩ := List.mem_iff_getElem?.mp he
    have := (List.getElem?_eq_some_iff.mp hj).1
    exact (B.done j e hj (by omega)).1 (by rw [h1]; exact gx)
  · have := (List.getElem?_eq_some_iff.mp h2).1
    omega
/-- a row is no longer than the number of rows ahead of it -/
theorem Bfs.len (B : Bfs m step goal k0 all p i) : ∀ (n j : Nat) (e : κ × List Nat), j ≤ n → all[j]? = some e → e.2.length ≤ j := by
  intro n
  induction n with
  | zero =>
    intro j e hj he
    have : j = 0 := by omega
    subst this
    rw [B.first] at he; cases he
    simp
  | succ n ih =>
    intro j e hj he
    rcases B.par e (List.mem_of_getElem? he) with h | ⟨j', f, b, hf, hjb, h⟩
    · rw [h]; simp
    · have hm : 0 < m := by
        have := B.run e (List.mem_of_getElem? he)
        rw [h] at this
        have := (lets_snoc.mp this.1).2
        omega
      have hlt : j' < j := by
        apply Nat.lt_of_not_le
        intro hle
        have c1 : code m f.2 < code m e.2 := by rw [h]; exact code_self_snoc hm
        rcases Nat.lt_or_ge j j' with h1 | h1
        · have := B.ord j j' e f he hf h1; omega
        · have : j = j' := by omega
          subst this
          rw [he] at hf; cases hf; omega
      have := ih j' f (by omega) hf
      rw [h]; simp; omega
end

/-! ## sets as rising lists -/
section
variable {α : Type} [DecidableEq α] (lt : α → α → Bool)
structure Ordr : Prop where
  irr : ∀ a, lt a a = false
  tra : ∀ a b c, lt a b = true → lt b c = true → lt a c = true
  tri : ∀ a b, lt a b = false → lt b a = false → a = b
def Up (l : List α) : Prop := l.Pairwise fun a b => lt a b = true
def ins (x : α) : List α → List α
  | [] => [x]
  | y :: l => if lt x y = true then x :: y :: l else if x = y then y :: l else y :: ins x l
def canon : List α → List α
  | [] => []
  | x :: l => ins lt x (canon l)
variable {lt}
theorem mem_ins {x z : α} : ∀ {l : List α}, z ∈ ins lt x l ↔ z = x ∨ z ∈ l
  | [] => by simp [ins]
  | y :: l => by
    unfold ins
    split
    · simp
    · split
      · rename_i h; subst h; simp
      · simp only [List.mem_cons, mem_ins (l := l)]
        grind
theorem up_ins (O : Ordr lt) {x : α} : ∀ {l : List α}, Up lt l → Up lt (ins lt x l)
  | [], _ => by simp [ins, Up]
  | y :: l, h => by
    have h' := List.pairwise_cons.mp h
    unfold ins
    split
    · rename_i hx
      refine List.pairwise_cons.mpr ⟨fun z hz => ?_, h⟩
      rcases List.mem_cons.mp hz with rfl | hz
      · exact hx
      · exact O.tra _ _ _ hx (h'.1 z hz)
    · rename_i hx
      split
      · exact h
      · rename_i hne
        refine List.pairwise_cons.mpr ⟨fun z hz => ?_, up_ins O h'.2⟩
        rcases mem_ins.mp hz with rfl | hz
        · cases e : lt y z with
          | true => rfl
          | false => exact absurd (O.tri _ _ (by simpa using hx) e) hne
        · exact h'.1 z hz
theorem mem_canon {z : α} : ∀ {l : List α}, z ∈ canon lt l ↔ z ∈ l
  | [] => by simp [canon]
  | y :: l => by
    unfold canon
    rw [mem_ins, mem_canon (l := l), List.mem_cons]
theorem up_canon (O : Ordr lt) : ∀ (l : List α), Up lt (canon lt l)
  | [] => by simp [canon, Up]
  | y :: l => up_ins O (up_canon O l)
theorem up_ext (O : Ordr lt) : ∀ {l r : List α}, Up lt l → Up lt r → (∀ x, x ∈ l ↔ x ∈ r) → l = r
  | [], [], _, _, _ => rfl
  | [], y :: r, _, _, h => by have := (h y).mpr (by simp); simp at this
  | x :: l, [], _, _, h => by have := (h x).mp (by simp); simp at this
  | x :: l, y :: r, hl, hr, h => by
    have hl' := List.pairwise_cons.mp hl
    have hr' := List.pairwise_cons.mp hr
    have asym : ∀ a b, lt a b = true → lt b a = true → False := fun a b h1 h2 => by
      have := O.tra _ _ _ h1 h2
      rw [O.irr] at this; cases this
    have e : x = y := by
      rcases List.mem_cons.mp ((h x).mp (by simp)) with e | h1
      · exact e
      · rcases List.mem_cons.mp ((h y).mpr (by simp)) with e | h2
        · exact e.symm
        · exact (asym _ _ (hr'.1 x h1) (hl'.1 y h2)).elim
    subst e
    refine congrArg (x :: ·) (up_ext O hl'.2 hr'.2 fun z => ⟨fun hz => ?_, fun hz => ?_⟩)
    · rcases List.mem_cons.mp ((h z).mp (by simp [hz])) with e | h1
      · subst e
        have := hl'.1 z hz
        rw [O.irr] at this; cases this
      · exact h1
    · rcases List.mem_cons.mp ((h z).mpr (by simp [hz])) with e | h1
      · subst e
        have := hr'.1 z hz
        rw [O.irr] at this; cases this
      · exact h1
theorem canon_of (O : Ordr lt) {l r : List α} (h : Up lt l) (hm : ∀ x, x ∈ l ↔ x ∈ r) : l = canon lt r :=
  up_ext O h (up_canon O r) fun x => (hm x).trans mem_canon.symm
theorem canon_ext (O : Ordr lt) {l r : List α} (hm : ∀ x, x ∈ l ↔ x ∈ r) : canon lt l = canon lt r :=
  canon_of O (up_canon O l) fun x => mem_canon.trans (hm x)
theorem Up.nodup (O : Ordr lt) {l : List α} (h : Up lt l) : l.Nodup := h.imp fun {a b} hab e => by
  subst e
  rw [O.irr] at hab; cases hab
/-- one member -/
theorem up_one (O : Ordr lt) {l : List α} (h : Up lt l) (h0 : l ≠ []) : l.length = 1 ↔ ∃ t, ∀ x ∈ l, x = t := by
  constructor
  · intro e
    match l, e with
    | [t], _ => exact ⟨t, by simp⟩
  · rintro ⟨t, ht⟩
    match l, h0 with
    | [x], _ => rfl
    | x :: y :: r, _ =>
      have e1 := ht x (by simp)
      have e2 := ht y (by simp)
      have := (List.pairwise_cons.mp h).1 y (by simp)
      rw [e1, e2, O.irr] at this; cases this
end
/-! ## counting -/
theorem nodup_len {α : Type} [DecidableEq α] : ∀ {l r : List α}, l.Nodup → (∀ x ∈ l, x ∈ r) → l.length ≤ r.length
  | [], _, _, _ => Nat.zero_le _
  | a :: l, r, hn, hs => by
    have hn' := List.nodup_cons.mp hn
    have ha := hs a (by simp)
    have h1 : ∀ x ∈ l, x ∈ r.erase a := fun x hx => by
      refine (List.mem_erase_of_ne fun e => ?_).mpr (hs x (by simp [hx]))
      subst e
      exact hn'.1 hx
    have h2 := nodup_len hn'.2 h1
    rw [List.length_erase_of_mem ha] at h2
    have : 0 < r.length := List.length_pos_of_mem ha
    simp
    omega
def subs {α : Type} : List α → List (List α)
  | [] => [[]]
  | a :: l => subs l ++ (subs l).map (a :: ·)
theorem subs_len {α : Type} : ∀ (l : List α), (subs l).length = 2 ^ l.length
  | [] => rfl
  | a :: l => by
    simp [subs, subs_len l, Nat.pow_succ]
    omega
theorem subs_mem {α : Type} [DecidableEq α] {lt : α → α → Bool} (O : Ordr lt) : ∀ {c k : List α}, Up lt c → Up lt k → (∀ x ∈ k, x ∈ c) → k ∈ subs c
  | [], k, _, _, hs => by
    have : k = [] := List.eq_nil_iff_forall_not_mem.mpr fun x hx => by have := hs x hx; simp at this
    subst this
    simp [subs]
  | a :: c, [], hc, _, _ => by
    have := subs_mem O (c := c) (k := []) (List.pairwise_cons.mp hc).2 (by simp [Up]) (by simp)
    simp [subs, this]
  | a :: c, x :: k, hc, hk, hs => by
    have hc' := List.pairwise_cons.mp hc
    have hk' := List.pairwise_cons.mp hk
    have asym : ∀ a b, lt a b = true → lt b a = true → False := fun a b h1 h2 => by
      have := O.tra _ _ _ h1 h2
      rw [O.irr] at this; cases this
    by_cases e : x = a
    · subst e
      have : k ∈ subs c := subs_mem O hc'.2 hk'.2 fun z hz => by
        rcases List.mem_cons.mp (hs z (by simp [hz])) with e | h
        · subst e
          have := hk'.1 z hz
          rw [O.irr] at this; cases this
        · exact h
      simp [subs, this]
    · have hx : x ∈ c := by
        rcases List.mem_cons.mp (hs x (by simp)) with h | h
        · exact absurd h e
        · exact h
      have : (x :: k) ∈ subs c := subs_mem O hc'.2 hk fun z hz => by
        rcases List.mem_cons.mp (hs z hz) with h | h
        · subst h
          rcases List.mem_cons.mp hz with h2 | h2
          · exact absurd h2.symm e
          · exact (asym _ _ (hc'.1 x hx) (hk'.1 _ h2)).elim
        · exact h
      simp [subs, this]
/-! ## machines: states S, letters L, the step d -/
section
variable {α β : Type} [DecidableEq α] [DecidableEq β]
def runw (d : α → β → α) (s : α) (w : List β) : α := w.foldl d s
theorem runw_app (d : α → β → α) (s : α) (u v : List β) : runw d s (u ++ v) = runw d (runw d s u) v := by simp [runw, List.foldl_append]
theorem runw_snoc (d : α → β → α) (s : α) (u : List β) (a : β) : runw d s (u ++ [a]) = d (runw d s u) a := by simp [runw, List.foldl_append]
/-- the row of letters of a word of indices -/
def lets (L : List β) (z : β) (w : List Nat) : List β := w.map fun i => L.getD i z
def Stays (S : List α) (L : List β) (d : α → β → α) : Prop := ∀ s ∈ S, ∀ a ∈ L, d s a ∈ S
theorem runw_in {S : List α} {L : List β} {d : α → β → α} (h : Stays S L d) : ∀ {w : List β} {s : α}, s ∈ S → (∀ a ∈ w, a ∈ L) → runw d s w ∈ S
  | [], s, hs, _ => hs
  | a :: w, s, hs, hw => runw_in h (w := w) (s := d s a) (h s hs a (hw a (by simp))) fun b hb => hw b (by simp [hb])
/-- a row that brings all to one -/
def Res (S : List α) (d : α → β → α) (w : List β) : Prop := ∃ t, ∀ s ∈ S, runw d s w = t
theorem lets_in {L : List β} {z : β} {w : List Nat} (h : Lets L.length w) : ∀ a ∈ lets L z w, a ∈ L := by
  intro a ha
  obtain ⟨i, hi, rfl⟩ := List.mem_map.mp ha
  have := h i hi
  rw [List.getD_eq_getElem?_getD, List.getElem?_eq_getElem this]
  simp
theorem lets_of {L : List β} (z : β) : ∀ {r : List β}, (∀ a ∈ r, a ∈ L) → ∃ w, Lets L.length w ∧ lets L z w = r
  | [], _ => ⟨[], lets_nil _, rfl⟩
  | a :: r, h => by
    obtain ⟨w, h1, h2⟩ := lets_of z (r := r) fun b hb => h b (by simp [hb])
    obtain ⟨i, hi, e⟩ := List.getElem_of_mem (h a (by simp))
    refine ⟨i :: w, fun x hx => ?_, ?_⟩
    · rcases List.mem_cons.mp hx with rfl | hx
      · exact hi
      · exact h1 x hx
    · show L.getD i z :: lets L z w = a :: r
      rw [h2, List.getD_eq_getElem?_getD, List.getElem?_eq_getElem hi, e]
      rfl
variable {lt : α → α → Bool}
/-- the set behind a letter -/
def kstep (lt : α → α → Bool) (L : List β) (z : β) (d : α → β → α) (k : List α) (i : Nat) : List α := canon lt (k.map fun s => d s (L.getD i z))
theorem kmem {L : List β} {z : β} {d : α → β → α} {k0 : List α} {x : α} : ∀ (n : Nat) (w : List Nat), w.length = n → (x ∈ w.foldl (kstep lt L z d) k0 ↔ ∃ s ∈ k0, runw d s (lets L z w) = x) := by
  intro n
  induction n generalizing x with
  | zero =>
    intro w hw
    have : w = [] := List.length_eq_zero_iff.mp hw
    subst this
    simp [lets, runw]
  | succ n ih =>
    intro w hw
    rcases snoc_or w with rfl | ⟨u, a, rfl⟩
    · simp at hw
    · rw [List.foldl_append]
      show x ∈ canon lt _ ↔ _
      rw [mem_canon, List.mem_map]
      constructor
      · rintro ⟨y, hy, rfl⟩
        obtain ⟨s, hs, rfl⟩ := (ih u (by simp at hw; omega)).mp hy
        exact ⟨s, hs, by simp [lets, runw]⟩
      · rintro ⟨s, hs, rfl⟩
        exact ⟨runw d s (lets L z u), (ih u (by simp at hw; omega)).mpr ⟨s, hs, rfl⟩, by simp [lets, runw]⟩
theorem kne {L : List β} {z : β} {d : α → β → α} {k0 : List α} (h0 : k0 ≠ []) (w : List Nat) : w.foldl (kstep lt L z d) k0 ≠ [] := by
  obtain ⟨s, hs⟩ := List.exists_mem_of_ne_nil k0 h0
  exact List.ne_nil_of_mem ((kmem (lt := lt) (d := d) (L := L) (z := z) w.length w rfl).mpr ⟨s, hs, rfl⟩)
/-- the goal of the search: one state, just where the row brings all to one -/
theorem kgoal (O : Ordr lt) {S : List α} {L : List β} {z : β} {d : α → β → α} {k0 : List α} (hS : S ≠ []) (hk : ∀ x, x ∈ k0 ↔ x ∈ S) (hn : k0.Nodup) (w : List Nat) :
    (w.foldl (kstep lt L z d) k0).length = 1 ↔ Res S d (lets L z w) := by
  have h0 : k0 ≠ [] := by
    obtain ⟨s, hs⟩ := List.exists_mem_of_ne_nil S hS
    exact List.ne_nil_of_mem ((hk s).mpr hs)
  have key : (w.foldl (kstep lt L z d) k0).length = 1 ↔ ∃ t, ∀ x ∈ w.foldl (kstep lt L z d) k0, x = t := by
    rcases snoc_or w with rfl | ⟨u, a, rfl⟩
    · show k0.length = 1 ↔ ∃ t, ∀ x ∈ k0, x = t
      constructor
      · intro e
        match k0, e with
        | [t], _ => exact ⟨t, by simp⟩
      · rintro ⟨t, ht⟩
        match k0, h0, hn with
        | [x], _, _ => rfl
        | x :: y :: r, _, hn =>
          have e1 := ht x (by simp)
          have e2 := ht y (by simp)
          subst e1
          rw [e2] at hn
          simp at hn
    · have h1 := kne (lt := lt) (L := L) (z := z) (d := d) h0 (u ++ [a])
      rw [List.foldl_append] at h1 ⊢
      exact up_one O (up_canon O _) h1
  rw [key]
  constructor
  · rintro ⟨t, ht⟩
    exact ⟨t, fun s hs => ht _ ((kmem w.length w rfl).mpr ⟨s, (hk s).mpr hs, rfl⟩)⟩
  · rintro ⟨t, ht⟩
    refine ⟨t, fun x hx => ?_⟩
    obtain ⟨s, hs, rfl⟩ := (kmem w.length w rfl).mp hx
    exact ht s ((hk s).mp hs)
/-! ## keeps -/
def pairsOf : List α → List (α × α)
  | [] => []
  | a :: l => l.map (fun b => (a, b)) ++ pairsOf l
theorem mem_pairsOf {x y : α} : ∀ {l : List α}, x ∈ l → y ∈ l → x ≠ y → (x, y) ∈ pairsOf l ∨ (y, x) ∈ pairsOf l
  | [], h, _, _ => by simp at h
  | a :: l, hx, hy, hne => by
    rcases List.mem_cons.mp hx with rfl | hx
    · rcases List.mem_cons.mp hy with rfl | hy
      · exact absurd rfl hne
      · exact .inl (by simp [pairsOf, hy])
    · rcases List.mem_cons.mp hy with e | hy
      · refine .inr (List.mem_append.mpr (.inl (List.mem_map.mpr ⟨x, hx, by rw [e]⟩)))
      · rcases mem_pairsOf hx hy hne with h | h
        · exact .inl (by simp [pairsOf, h])
        · exact .inr (by simp [pairsOf, h])
theorem of_pairsOf {p : α × α} : ∀ {l : List α}, l.Nodup → p ∈ pairsOf l → p.1 ∈ l ∧ p.2 ∈ l ∧ p.1 ≠ p.2
  | [], _, h => by simp [pairsOf] at h
  | a :: l, hn, h => by
    have hn' := List.nodup_cons.mp hn
    rcases List.mem_append.mp h with h | h
    · obtain ⟨b, hb, rfl⟩ := List.mem_map.mp h
      exact ⟨by simp, by simp [hb], fun e => hn'.1 (by rw [show a = b from e]; exact hb)⟩
    · obtain ⟨h1, h2, h3⟩ := of_pairsOf hn'.2 h
      exact ⟨by simp [h1], by simp [h2], h3⟩
def inP (p : α × α) (ps : List (α × α)) : Bool := ps.contains p || ps.contains (p.2, p.1)
def lstep (L : List β) (d : α → β → α) (left : List (α × α)) : List (α × α) := left.filter fun p => L.all fun a => inP (d p.1 a, d p.2 a) left
def lasts (L : List β) (d : α → β → α) : Nat → List (α × α) → List (α × α)
  | 0, l => l
  | n + 1, l => if (lstep L d l).length = l.length then lstep L d l else lasts L d n (lstep L d l)
theorem lstep_len (L : List β) (d : α → β → α) (l : List (α × α)) : (lstep L d l).length ≤ l.length := List.length_filter_le _ _
theorem lstep_same {L : List β} {d : α → β → α} {l : List (α × α)} (h : (lstep L d l).length = l.length) : lstep L d l = l := by
  unfold lstep at h ⊢
  exact List.filter_eq_self.mpr (List.length_filter_eq_length_iff.mp h)
/-- what a list of pairs must be: closed under all letters -/
def Clo (L : List β) (d : α → β → α) (l : List (α × α)) : Prop := ∀ p ∈ l, ∀ a ∈ L, inP (d p.1 a, d p.2 a) l = true
theorem lasts_clo {L : List β} {d : α → β → α} : ∀ (n : Nat) (l : List (α × α)), l.length ≤ n → Clo L d (lasts L d n l) := by
  intro n
  induction n with
  | zero =>
    intro l hl
    have : l = [] := List.length_eq_zero_iff.mp (by omega)
    subst this
    intro p hp; simp [lasts] at hp
  | succ n ih =>
    intro l hl
    unfold lasts
    split
    · rename_i h
      have e := lstep_same h
      rw [e]
      intro p hp a ha
      rw [← e] at hp
      have := (List.mem_filter.mp hp).2
      exact List.all_eq_true.mp this a ha
    · rename_i h
      have := lstep_len L d l
      exact ih _ (by omega)
theorem lasts_sub {L : List β} {d : α → β → α} : ∀ (n : Nat) (l : List (α × α)), ∀ p ∈ lasts L d n l, p ∈ l := by
  intro n
  induction n with
  | zero => intro l p hp; exact hp
  | succ n ih =>
    intro l p hp
    unfold lasts at hp
    split at hp
    · exact (List.mem_filter.mp hp).1
    · exact (List.mem_filter.mp (ih _ p hp)).1
theorem inP_iff {p : α × α} {l : List (α × α)} : inP p l = true ↔ p ∈ l ∨ (p.2, p.1) ∈ l := by
  simp [inP, Bool.or_eq_true, List.contains_iff_mem]
def Merg (L : List β) (d : α → β → α) (s t : α) : Prop := ∃ w, (∀ a ∈ w, a ∈ L) ∧ runw d s w = runw d t w
theorem Merg.symm {L : List β} {d : α → β → α} {s t : α} (h : Merg L d s t) : Merg L d t s := let ⟨w, a, b⟩ := h; ⟨w, a, b.symm⟩
theorem lasts_merg {S : List α} {L : List β} {d : α → β → α} (hS : Stays S L d) : ∀ (n : Nat) (l : List (α × α)), (∀ p ∈ l, p.1 ∈ S ∧ p.2 ∈ S) →
    (∀ s ∈ S, ∀ t ∈ S, inP (s, t) l = false → Merg L d s t) → ∀ s ∈ S, ∀ t ∈ S, inP (s, t) (lasts L d n l) = false → Merg L d s t := by
  intro n
  induction n with
  | zero => intro l _ h; exact h
  | succ n ih =>
    intro l hl h
    have step : ∀ s ∈ S, ∀ t ∈ S, inP (s, t) (lstep L d l) = false → Merg L d s t := by
      have one : ∀ p ∈ l, p ∉ lstep L d l → Merg L d p.1 p.2 := fun p hp hn => by
        have : ¬ (L.all fun a => inP (d p.1 a, d p.2 a) l) = true := fun q => hn (List.mem_filter.mpr ⟨hp, q⟩)
        rw [List.all_eq_true] at this
        simp only [Classical.not_forall] at this
        obtain ⟨a, ha, q⟩ := this
        obtain ⟨w, h1, h2⟩ := h _ (hS _ (hl p hp).1 a ha) _ (hS _ (hl p hp).2 a ha) (by simpa using q)
        refine ⟨a :: w, fun b hb => ?_, h2⟩
        rcases List.mem_cons.mp hb with e | hb
        · rw [e]; exact ha
        · exact h1 b hb
      intro s hs t ht q
      by_cases q0 : inP (s, t) l = true
      · have q' : ¬ ((s, t) ∈ lstep L d l ∨ (t, s) ∈ lstep L d l) := fun z => by
          rw [inP_iff.mpr z] at q; cases q
        rcases inP_iff.mp q0 with h1 | h1
        · exact one _ h1 fun z => q' (.inl z)
        · exact (one _ h1 fun z => q' (.inr z)).symm
      · exact h s hs t ht (by simpa using q0)
    unfold lasts
    split
    · exact step
    · exact ih _ (fun p hp => hl p (List.mem_filter.mp hp).1) step
def keepF (S : List α) (L : List β) (d : α → β → α) : List (α × α) := lasts L d (pairsOf S).length (pairsOf S)
theorem keep_none {S : List α} {L : List β} {d : α → β → α} (h0 : S ≠ []) (hn : S.Nodup) (hS : Stays S L d) (h : keepF S L d = []) : ∃ w, (∀ a ∈ w, a ∈ L) ∧ Res S d w := by
  obtain ⟨s0, _⟩ := List.exists_mem_of_ne_nil S h0
  have mg : ∀ s ∈ S, ∀ t ∈ S, Merg L d s t := fun s hs t ht => by
    refine lasts_merg hS (pairsOf S).length (pairsOf S) (fun p hp => ⟨(of_pairsOf hn hp).1, (of_pairsOf hn hp).2.1⟩) (fun s hs t ht q => ?_) s hs t ht (by
      show inP (s, t) (keepF S L d) = false
      rw [h]; rfl)
    by_cases e : s = t
    · subst e
      exact ⟨[], by simp, rfl⟩
    · have := mem_pairsOf hs ht e
      rw [inP_iff.mpr this] at q; cases q
  have all : ∀ T : List α, (∀ s ∈ T, s ∈ S) → ∃ w, (∀ a ∈ w, a ∈ L) ∧ Res T d w := by
    intro T
    induction T with
    | nil => intro _; exact ⟨[], by simp, s0, by simp⟩
    | cons s T ih =>
      intro hT
      obtain ⟨w, hw, t, ht⟩ := ih fun x hx => hT x (by simp [hx])
      cases T with
      | nil => exact ⟨[], by simp, s, by simp [runw]⟩
      | cons y T' =>
        have hs := hT s (by simp)
        have hy := hT y (by simp)
        obtain ⟨v, hv, e⟩ := mg _ (runw_in hS hs hw) _ (runw_in hS hy hw)
        refine ⟨w ++ v, fun a ha => ?_, runw d (runw d s w) v, fun x hx => ?_⟩
        · rcases List.mem_append.mp ha with h | h
          · exact hw a h
          · exact hv a h
        · rw [runw_app]
          rcases List.mem_cons.mp hx with rfl | hx
          · rfl
          · rw [ht x hx, ← ht y (by simp), e]
  exact all S fun _ h => h
theorem clo_run {L : List β} {d : α → β → α} {l : List (α × α)} (h : Clo L d l) : ∀ (w : List β), (∀ a ∈ w, a ∈ L) → ∀ p : α × α, inP p l = true → inP (runw d p.1 w, runw d p.2 w) l = true
  | [], _, p, hp => hp
  | a :: w, hw, p, hp => by
    refine clo_run h w (fun b hb => hw b (by simp [hb])) (d p.1 a, d p.2 a) ?_
    have ha := hw a (by simp)
    rcases inP_iff.mp hp with q | q
    · exact h p q a ha
    · have := h _ q a ha
      rcases inP_iff.mp this with z | z
      · exact inP_iff.mpr (.inr z)
      · exact inP_iff.mpr (.inl z)
theorem keep_some {S : List α} {L : List β} {d : α → β → α} (hn : S.Nodup) (h : keepF S L d ≠ []) : ∀ w, (∀ a ∈ w, a ∈ L) → ¬ Res S d w := by
  rintro w hw ⟨t, ht⟩
  obtain ⟨p, hp⟩ := List.exists_mem_of_ne_nil _ h
  have sub : ∀ q ∈ keepF S L d, q ∈ pairsOf S := lasts_sub _ _
  have c := lasts_clo (L := L) (d := d) (pairsOf S).length (pairsOf S) (Nat.le_refl _)
  have hp' := of_pairsOf hn (sub p hp)
  have := clo_run c w hw p (inP_iff.mpr (.inl hp))
  rw [ht _ hp'.1, ht _ hp'.2.1] at this
  rcases inP_iff.mp this with z | z
  · exact (of_pairsOf hn (sub _ z)).2.2 rfl
  · exact (of_pairsOf hn (sub _ z)).2.2 rfl
theorem keep_clo {S : List α} {L : List β} {d : α → β → α} : Clo L d (keepF S L d) := lasts_clo (pairsOf S).length (pairsOf S) (Nat.le_refl _)
theorem keep_in {S : List α} {L : List β} {d : α → β → α} (hn : S.Nodup) : ∀ p ∈ keepF S L d, p.1 ∈ S ∧ p.2 ∈ S ∧ p.1 ≠ p.2 := fun p hp => of_pairsOf hn (lasts_sub _ _ p hp)
/-- what the loop of the rounds keeps: the end is the same -/
theorem lasts_turn {L : List β} {d : α → β → α} (n : Nat) (l : List (α × α)) (hn : l.length ≤ n) : lasts L d n l = if (lstep L d l).length = l.length then lstep L d l else lasts L d (lstep L d l).length (lstep L d l) := by
  have aux : ∀ (k n : Nat) (l : List (α × α)), l.length ≤ k → l.length ≤ n → lasts L d n l = lasts L d l.length l := by
    intro k
    induction k with
    | zero =>
      intro n l hk _
      have : l = [] := List.length_eq_zero_iff.mp (by omega)
      subst this
      cases n <;> simp [lasts, lstep]
    | succ k ih =>
      intro n l hk hn
      have hs := lstep_len L d l
      cases n with
      | zero =>
        have : l = [] := List.length_eq_zero_iff.mp (by omega)
        subst this
        rfl
      | succ n =>
        cases hl : l.length with
        | zero =>
          have : l = [] := List.length_eq_zero_iff.mp hl
          subst this
          simp [lasts, lstep]
        | succ m =>
          unfold lasts
          split
          · rfl
          · rename_i hne
            rw [ih n _ (by omega) (by omega), ih m _ (by omega) (by omega)]
  have hs := lstep_len L d l
  cases n with
  | zero =>
    have : l = [] := List.length_eq_zero_iff.mp (by omega)
    subst this
    simp [lasts, lstep]
  | succ n =>
    conv => lhs; unfold lasts
    split
    · rfl
    · rename_i hne
      exact aux (lstep L d l).length n _ (Nat.le_refl _) (by omega)
theorem pairsOf_len : ∀ (l : List α), (pairsOf l).length ≤ l.length * l.length
  | [] => by simp [pairsOf]
  | a :: l => by
    have := pairsOf_len l
    simp only [pairsOf, List.length_append, List.length_map, List.length_cons, Nat.add_mul, Nat.mul_add]
    omega
end
end K45
end
section
set_option maxRecDepth 100000
set_option maxHeartbeats 4000000
namespace K45
open PySem PySem.Spec L2
/-! ## the text by places -/
def top (i : Nat) : Stmt := PySem.Challenge.pw_twoworlds_k45_whole_to_one.main.body.getD i (.Pass ⟨0, 0, 0, 0⟩)
abbrev Call1 (P : Program) (w : World) (K : PySem.W.Frag) (mg : Str → Option Value) (base : Heap) (k : Nat) (x : Str) (sp : Sp) : Prop := C8.Cal P w K mg base k x sp []
/-- what the walk asks of the module's names -/
structure Txt (K : PySem.W.Frag) (mg : Str → Option Value) : Prop where
  n_len : mg "len" = none
  n_isinstance : mg "isinstance" = none
  n_all : mg "all" = none
  n_any : mg "any" = none
  n_list : mg "list" = none
  n_tuple : mg "tuple" = none
  n_dict : mg "dict" = none
  n_set : mg "set" = none
  n_sorted : mg "sorted" = none
  n_range : mg "range" = none
  n_enumerate : mg "enumerate" = none
  n_zip : mg "zip" = none
  n_int : mg "int" = none
  n_str : mg "str" = none
  n_bool : mg "bool" = none
theorem sz_le {n : Nat} (h : n ≤ 1000) : n ≤ sizeLine := Nat.le_of_lt (small1000 h)
/-! ## heaps -/
/-- all but what stands at the two addresses of the stream is as it was -/
def SB (p q : Addr) (H H' : Hp) : Prop := ∀ b o, H b = some o → b ≠ p → b ≠ q → H' b = some o
theorem SB.refl (p q : Addr) (H : Hp) : SB p q H H := fun _ _ h _ _ => h
theorem SB.trans {p q : Addr} {H H1 H2 : Hp} (a : SB p q H H1) (b : SB p q H1 H2) : SB p q H H2 := fun c o h h1 h2 => b c o (a c o h h1 h2) h1 h2
theorem sb_of {p q : Addr} {H H' : Hp} (a : Same H H') : SB p q H H' := fun c o h _ _ => a c o h
theorem same_upd {H : Hp} {p : Addr} {o : HO} (h : H p = none) : Same H (upd H p o) := fun b u e => by rw [upd_ne (ne_of_none e h)]; exact e
theorem same_upd2 {H H1 : Hp} {p : Addr} {o : HO} (s : Same H H1) (h : H p = none) : Same H (upd H1 p o) := fun b u e => by rw [upd_ne (ne_of_none e h)]; exact s b u e
/-- the spring of draws: at p the list of four, at q the cells left; c the number of draws so far -/
structure Str8 (p q : Addr) (c : Nat) (H : Hp) : Prop where
  ex : ∃ (cells : List Int) (a e : Int), H p = some (.lst [.ref q, .int a, .int (c : Nat), .int e]) ∧ H q = some (.lst (cells.map V.int)) ∧ 0 ≤ a ∧ 0 ≤ e ∧ e < 2147483647
  ne : p ≠ q
  few : c ≤ 1000000
theorem Str8.same {p q : Addr} {c : Nat} {H H' : Hp} (S : Str8 p q c H) (h : Same H H') : Str8 p q c H' := by
  obtain ⟨cells, a, e, h1, h2, h3⟩ := S.ex
  exact ⟨⟨cells, a, e, h _ _ h1, h _ _ h2, h3⟩, S.ne, S.few⟩
theorem Str8.has {p q : Addr} {c : Nat} {H : Hp} (S : Str8 p q c H) : (∃ o, H p = some o) ∧ ∃ o, H q = some o := by
  obtain ⟨cells, a, e, h1, h2, h3⟩ := S.ex
  exact ⟨⟨_, h1⟩, _, h2⟩
theorem Str8.put {p q : Addr} {c : Nat} {H : Hp} (S : Str8 p q c H) {r : Addr} {o : HO} (h1 : r ≠ p) (h2 : r ≠ q) : Str8 p q c (upd H r o) := by
  obtain ⟨cells, a, e, k1, k2, h3⟩ := S.ex
  exact ⟨⟨cells, a, e, by rw [upd_ne (Ne.symm h1)]; exact k1, by rw [upd_ne (Ne.symm h2)]; exact k2, h3⟩, S.ne, S.few⟩
/-- the same in other words: r is a new address -/
theorem Str8.new {p q : Addr} {c : Nat} {H : Hp} (S : Str8 p q c H) {r : Addr} {o : HO} (h : H r = none) : Str8 p q c (upd H r o) := S.same (same_upd h)
theorem SB.new {p q : Addr} {H H1 : Hp} {r : Addr} {o : HO} (a : SB p q H H1) (h : H r = none) : SB p q H (upd H1 r o) := fun b u e h1 h2 => by
  rw [upd_ne (ne_of_none e h)]; exact a b u e h1 h2
/-- a new address behind was new ahead -/
theorem SB.free {p q : Addr} {H H' : Hp} {c : Nat} (a : SB p q H H') (S : Str8 p q c H') {r : Addr} (h : H' r = none) : H r = none := by
  obtain ⟨⟨o1, h1⟩, o2, h2⟩ := S.has
  cases e : H r with
  | none => rfl
  | some o =>
    have n1 : r ≠ p := fun z => by rw [z, h1] at h; cases h
    have n2 : r ≠ q := fun z => by rw [z, h2] at h; cases h
    rw [a r o e n1 n2] at h; cases h
/-! ## draws -/
def spDraw : Sp := fun vs H Q _ => ∃ (p q : Addr) (c : Nat) (n : Int), vs = [.ref p, .int n] ∧ Str8 p q c H ∧ c + 1 ≤ 1000000 ∧ 0 < n ∧ n < 1000000 ∧
  ∀ (r : Int) (H' : Hp), 0 ≤ r → r < n → Str8 p q (c + 1) H' → SB p q H H' → Q (.int r) H'
section
variable {P : Program} {w : World} {K : PySem.W.Frag} {mg : Str → Option Value} {base : Heap} {f : Addr} {fd : FuncData}
/-- what a def is by the top, all its parameters given -/
structure Dfn (K : PySem.W.Frag) (mg : Str → Option Value) (x : Str) (st : Stmt) (ps : List Str) : Prop where
  ex : ∃ (f : Addr) (fd : FuncData), C8.Def K mg x st f fd ∧ Binds K fd ps []
theorem Dfn.cal {x : Str} {st : Stmt} {N ps : List Str} {k : Nat} {sp : Sp} (D : Dfn K mg x st ps) (S : FnScope N ps (C8.fnScope st)) (len : ∀ vs H Q E, sp vs H Q E → vs.length = ps.length)
    (hbody : ∀ (f : Addr) (cdv : Value) (A : Around) (outer : List Env) (s : Shared) (H : Hp) (vs : List V) (Q : VK) (E : XK), Room k (A.deeper (PyProof.Rows.envOfC x (C8.fnScope st) s.heap.objs.size f cdv)) → sp vs H Q E →
      ∃ t, PSs (cxOf C8.CX0 P w K mg base N x (C8.fnScope st) f cdv A outer s H E).nox (C8.fnBody st) t ∧ t { nx := fun _ H' => Q .non H', rt := Q } (start N vs) H) : Call1 P w K mg base (k + 1) x sp := by
  obtain ⟨f, fd, F, b⟩ := D.ex
  exact C8.cal0 F b .nil S len fun cdv A outer s H vs Q E => hbody f cdv A outer s H vs Q E
end
/-! ## rules whose questions name the written part by a name (a comprehension's block has a context of its own) -/
section
variable {X : Cx}
theorem ix_listK (K : PySem.W.Frag) (h : X.K = K := by rfl) : IxR X (rIxL K) := by subst h; exact ix_list
theorem ix_tupK (K : PySem.W.Frag) (h : X.K = K := by rfl) : IxR X (rIxT K) := by subst h; exact ix_tup
theorem ix_seqK (K : PySem.W.Frag) (h : X.K = K := by rfl) : IxR X (rIx K) := by subst h; exact ix_seq
theorem lenK (K : PySem.W.Frag) (h : X.K = K := by rfl) : CallR X (.builtin "len") (fun xs H Q => ∃ x n, xs = [x] ∧ LenV K x H n ∧ Q (.int n) H) := by subst h; exact call_len
theorem listK (K : PySem.W.Frag) (h : X.K = K := by rfl) : CallR X (.type "list") (fun xs H Q => ∃ p ys, xs = [.ref p] ∧ (SqL K H p ys ∨ SqT K H p ys) ∧ ∀ l, H l = none → Q (.ref l) (upd H l (.lst ys))) := by subst h; exact call_list_of
theorem tupleK (K : PySem.W.Frag) (h : X.K = K := by rfl) : CallR X (.type "tuple") (fun xs H Q => ∃ p ys, xs = [.ref p] ∧ ((SqL K H p ys ∧ ∀ l, H l = none → Q (.ref l) (upd H l (.tup ys))) ∨ (SqT K H p ys ∧ Q (.ref p) H))) := by subst h; exact call_tuple_of
theorem eqDK (K : PySem.W.Frag) (hu : X.A.units + 64 < cLine) (h : X.K = K := by rfl) : OpR X (compareOp .Eq) (rEqD K) := by subst h; exact op_eqD hu
theorem neDK (K : PySem.W.Frag) (hu : X.A.units + 64 < cLine) (h : X.K = K := by rfl) : OpR X (compareOp .NotEq) (rNeD K) := by subst h; exact op_neD hu
theorem inDK (K : PySem.W.Frag) (hu : X.A.units + 65 < cLine) (h : X.K = K := by rfl) : OpR X (compareOp .In) (rInD K) := by subst h; exact op_inD hu
theorem notInDK (K : PySem.W.Frag) (hu : X.A.units + 65 < cLine) (h : X.K = K := by rfl) : OpR X (compareOp .NotIn) (rNotInD K) := by subst h; exact op_notInD hu
theorem inSeqK (K : PySem.W.Frag) (h : X.K = K := by rfl) : OpR X (compareOp .In) (rIn K false) := by subst h; exact op_in_seq
theorem notInSeqK (K : PySem.W.Frag) (h : X.K = K := by rfl) : OpR X (compareOp .NotIn) (rIn K true) := by subst h; exact op_notIn_seq
theorem allK (K : PySem.W.Frag) (hc : X.calm = true) (h : X.K = K := by rfl) : CallR X (.builtin "all") (rAll K) := by subst h; exact cr_all hc
theorem anyK (K : PySem.W.Frag) (hc : X.calm = true) (h : X.K = K := by rfl) : CallR X (.builtin "any") (rAny K) := by subst h; exact cr_any hc
theorem sortedSK (K : PySem.W.Frag) (h : X.K = K := by rfl) : CallR X (.builtin "sorted") (rSortedS K) := by subst h; exact cr_sortedS
theorem slListK (K : PySem.W.Frag) (h : X.K = K := by rfl) : SlR X (rSlL K) := by subst h; exact sl_list
theorem isiK (K : PySem.W.Frag) (h : X.K = K := by rfl) : CallR X (.builtin "isinstance") (rIsi K) := by subst h; exact call_isi
theorem isiTK (K : PySem.W.Frag) (h : X.K = K := by rfl) : CallR X (.builtin "isinstance") (rIsiT K) := by subst h; exact call_isiT
theorem fldK (K : PySem.W.Frag) {e : Expr} {f : Str} {pos : Pos} {ta : TE} (he : PE X e ta) (hb : attributeBase e f X.env (eval e X.env) = eval e X.env) (h : X.K = K := by rfl) : PE X (.Attribute e f pos) (tFld K ta f) := by subst h; exact pe_fld he hb
theorem revLK (K : PySem.W.Frag) {e : Expr} {te : TE} {k : Nat} {p1 p2 p3 pos : Pos} (he : PE X e te) (h : X.K = K := by rfl) : PE X (.Subscript e (.Slice none none (some (.UnaryOp .USub (.Constant (.int 1) k p1) p2)) p3) pos) (tRevL K te) := by subst h; exact pe_revL he
theorem tupG (K : PySem.W.Frag) {es : List Expr} {k : Nat} {t : TGs} {n : Nat} {pos : Pos} (hc : X.calm = true) (g : PGs X es t) (hn : (assignEach es X.env).length = n := by rfl) (hst : (assignEach es X.env).findIdx? (·.1) = none := by rfl) (h : X.K = K := by rfl) : PG X (.Tuple es k pos) (gTup K n t) := by
  subst h; exact pg_tup hc g hn hst
theorem listI (K : PySem.W.Frag) {tg l : Expr} {tl : TE} (hl : PE X l tl) (h : X.K = K := by rfl) : PI X tg l (iList K tl) := by subst h; exact pi_list hl
theorem tupI (K : PySem.W.Frag) {tg l : Expr} {tl : TE} (hl : PE X l tl) (h : X.K = K := by rfl) : PI X tg l (iTup K tl) := by subst h; exact pi_tup hl
theorem enumI (K : PySem.W.Frag) {e : Expr} {ta : TA} {p pos tpos : Pos} {elts : List Expr} {kk : Nat} (hg : Gl X "enumerate") (hm : X.mg "enumerate" = none) (ha : PA X [e] ta) (hs : starEach [e] X.env = [(false, eval e X.env)] := by rfl) (h : X.K = K := by rfl) :
    PI X (.Tuple elts kk tpos) (.Call (.Name "enumerate" p) [e] [] pos) (iEnum K ta) := by subst h; exact pi_enum hg hm ha hs
theorem zipI (K : PySem.W.Frag) {e e2 : Expr} {ta : TA} {p pos tpos : Pos} {elts : List Expr} {kk : Nat} (hg : Gl X "zip") (hm : X.mg "zip" = none) (ha : PA X [e, e2] ta)
    (hs : starEach [e, e2] X.env = (false, eval e X.env) :: starEach [e2] X.env := by rfl) (hpl : (backTo pos (starEach [e2] X.env)).any (·.1) = false := by rfl) (h : X.K = K := by rfl) :
    PI X (.Tuple elts kk tpos) (.Call (.Name "zip" p) [e, e2] [] pos) (RZ.iZipA K ta) := by subst h; exact RZ.pi_zipA hg hm ha hs hpl
theorem bmK (K : PySem.W.Frag) {T : String} {name : Str} {id : String} {o e : Expr} {es : List Expr} {to : TE} {t : TA} {r : V → List V → Hp → VK → Prop} {apos cpos : Pos} (pa : PlainAttrs T) (slot : Slot T name id) (hty : typeOf (.builtin id) = pure (.type "method_descriptor")) (hm : MtR X id r) (ho : PE X o to) (ha : PA X (e :: es) t)
    (hbase : attributeBase o name X.env (eval o X.env) = eval o X.env := by rfl)
    (hfew : ((backTo cpos (starEach (e :: es) X.env)).all (fun x => !x.1) && (backToKw cpos (keywordEach [] X.env)).all (fun x => x.1.isSome) && decide ((e :: es).length + ([] : List Keyword).length + (if ([] : List Keyword).isEmpty then 0 else 1) < 30)) = true := by rfl)
    (hline : (apos.endLine == cpos.line) = true := by rfl) (hs : starEach (e :: es) X.env = (false, eval e X.env) :: starEach es X.env := by rfl) (hplain : (backTo cpos (starEach es X.env)).any (·.1) = false := by rfl) (h : X.K = K := by rfl) :
    PE X (.Call (.Attribute o name apos) (e :: es) [] cpos) (tBM K T r to t) := by subst h; exact pe_bm pa slot hty hm ho ha hbase hfew hline hs hplain
end
end K45
end
section
set_option maxRecDepth 100000
set_option maxHeartbeats 4000000
namespace K45
open PySem PySem.Spec L2
/-- what is known of a heap is all that is used of it -/
theorem at_heap {G : Hp → Prop} {H1 : Hp} (A : Hp → Prop) (h : A H1) (k : ∀ H2, A H2 → G H2) : G H1 := k H1 h
/-! ## data of texts -/
theorem lay_all : ∀ {ds : List PyData}, (∀ d ∈ ds, d.canLay0 = true) → PyData.canLayAll0 ds = true
  | [], _ => by simp [PyData.canLayAll0]
  | d :: ds, h => by
    have h2 : PyData.canLayAll0 ds = true := lay_all fun e he => h e (List.mem_cons_of_mem _ he)
    simp [PyData.canLayAll0, h d (by simp), h2]
theorem dep_all {n : Nat} : ∀ {ds : List PyData}, (∀ d ∈ ds, d.depth ≤ n) → PyData.depthAll ds ≤ n
  | [], _ => by simp [PyData.depthAll]
  | d :: ds, h => by
    have h1 := h d (by simp)
    have h2 : PyData.depthAll ds ≤ n := dep_all fun e he => h e (List.mem_cons_of_mem _ he)
    simp only [PyData.depthAll]
    omega
/-- laid out and at most so deep -/
def Lay (n : Nat) (d : PyData) : Prop := d.canLay0 = true ∧ d.depth ≤ n
theorem Lay.list {n : Nat} {ds : List PyData} (h : ∀ d ∈ ds, Lay n d) : Lay (n + 1) (.list ds) := by
  have h1 := lay_all fun d hd => (h d hd).1
  have h2 := dep_all fun d hd => (h d hd).2
  refine ⟨by simpa [PyData.canLay0] using h1, ?_⟩
  simp only [PyData.depth]
  omega
theorem Lay.tuple {n : Nat} {ds : List PyData} (h : ∀ d ∈ ds, Lay n d) : Lay (n + 1) (.tuple ds) := by
  have h1 := lay_all fun d hd => (h d hd).1
  have h2 := dep_all fun d hd => (h d hd).2
  refine ⟨by simpa [PyData.canLay0] using h1, ?_⟩
  simp only [PyData.depth]
  omega
theorem Lay.shaped {n : Nat} {d : PyData} (h : Lay n d) (hn : n ≤ 64) : SeqAt.shaped d = true := by
  show (d.canLay0 && decide (d.depth ≤ 64)) = true
  rw [Bool.and_eq_true]
  exact ⟨h.1, decide_eq_true (Nat.le_trans h.2 hn)⟩
theorem Lay.mono {n m : Nat} {d : PyData} (h : Lay n d) (hn : n ≤ m) : Lay m d := ⟨h.1, Nat.le_trans h.2 hn⟩
theorem lay_int (i : Int) : Lay 0 (.int i) := ⟨by simp [PyData.canLay0], by simp [PyData.depth]⟩
theorem lay_str {x : Str} (h : PyData.strOk x = true) : Lay 0 (.str x) := ⟨by simpa [PyData.canLay0] using h, by simp [PyData.depth]⟩
/-- texts that may stand in data -/
def Oks (xs : List Str) : Prop := ∀ x ∈ xs, PyData.strOk x = true
abbrev dRow (xs : List Str) : PyData := .list (xs.map PyData.str)
abbrev dTup (xs : List Str) : PyData := .tuple (xs.map PyData.str)
theorem lay_row {xs : List Str} (h : Oks xs) : Lay 1 (dRow xs) := Lay.list fun d hd => by
  obtain ⟨x, hx, rfl⟩ := List.mem_map.mp hd
  exact lay_str (h x hx)
theorem lay_tup {xs : List Str} (h : Oks xs) : Lay 1 (dTup xs) := Lay.tuple fun d hd => by
  obtain ⟨x, hx, rfl⟩ := List.mem_map.mp hd
  exact lay_str (h x hx)
theorem eqv_strs : ∀ (xs ys : List Str), PyData.eqvAll (xs.map PyData.str) (ys.map PyData.str) = decide (xs = ys)
  | [], [] => by simp [PyData.eqvAll]
  | [], y :: ys => by simp [PyData.eqvAll]
  | x :: xs, [] => by simp [PyData.eqvAll]
  | x :: xs, y :: ys => by
    simp only [List.map_cons, PyData.eqvAll, PyData.eqv, eqv_strs xs ys]
    by_cases h1 : x = y <;> by_cases h2 : xs = ys <;> simp [h1, h2]
theorem eqv_row (xs ys : List Str) : PyData.eqv (dRow xs) (dRow ys) = decide (xs = ys) := by
  show PyData.eqv (.list _) (.list _) = _
  simp only [PyData.eqv, eqv_strs]
theorem eqv_tup (xs ys : List Str) : PyData.eqv (dTup xs) (dTup ys) = decide (xs = ys) := by
  show PyData.eqv (.tuple _) (.tuple _) = _
  simp only [PyData.eqv, eqv_strs]
/-- lists of tuples, of rows -/
theorem eqv_tups : ∀ (xs ys : List (List Str)), PyData.eqvAll (xs.map dTup) (ys.map dTup) = decide (xs = ys)
  | [], [] => by simp [PyData.eqvAll]
  | [], y :: ys => by simp [PyData.eqvAll]
  | x :: xs, [] => by simp [PyData.eqvAll]
  | x :: xs, y :: ys => by
    simp only [List.map_cons, PyData.eqvAll, eqv_tups xs ys]
    rw [show PyData.eqv (dTup x) (dTup y) = _ from eqv_tup x y]
    by_cases h1 : x = y <;> by_cases h2 : xs = ys <;> simp [h1, h2]
section
variable {K : PySem.W.Frag} {H : Hp}
theorem dp_strs : ∀ (xs : List Str), DpAll K H (xs.map V.str) (xs.map PyData.str)
  | [] => .nil
  | x :: xs => .cons (.str x) (dp_strs xs)
theorem dp_ints : ∀ (xs : List Int), DpAll K H (xs.map V.int) (xs.map PyData.int)
  | [] => .nil
  | x :: xs => .cons (.int x) (dp_ints xs)
theorem dp_row {a : Addr} {xs : List Str} (h : SqL K H a (xs.map V.str)) : Dp K H (.ref a) (dRow xs) := .lst h (dp_strs xs)
theorem dp_tup {a : Addr} {xs : List Str} (h : SqT K H a (xs.map V.str)) : Dp K H (.ref a) (dTup xs) := .tup h (dp_strs xs)
theorem dp_each {α : Type} {F : Addr → α → Prop} {g : α → PyData} (hF : ∀ a x, F a x → Dp K H (.ref a) (g x)) : ∀ {as : List Addr} {xs : List α}, Paired F as xs → DpAll K H (as.map V.ref) (xs.map g)
  | _, _, .nil => .nil
  | _, _, .cons r t => .cons (hF _ _ r) (dp_each hF t)
end
/-! ## names -/
def sgns : List Nat := [97, 98, 99, 100, 101, 102, 103, 104, 105, 106, 107, 108, 109, 110, 111, 112, 113, 114, 115, 116, 117, 118, 119, 120, 121, 122, 48, 49, 50, 51, 52, 53, 54, 55, 56, 57, 46]
theorem sgns_text : (("abcdefghijklmnopqrstuvwxyz0123456789." : Str)).cps.toList = sgns := by decide +kernel
def NmB (x : Str) : Bool := decide (0 < x.length) && decide (x.length ≤ 12) && x.cps.toList.all (fun c => sgns.contains c)
/-- a name -/
def Nm (x : Str) : Prop := NmB x = true
theorem Nm.pos {x : Str} (h : Nm x) : 0 < x.length := by
  unfold Nm NmB at h
  simp only [Bool.and_eq_true, decide_eq_true_eq] at h
  exact h.1.1
theorem Nm.few {x : Str} (h : Nm x) : x.length ≤ 12 := by
  unfold Nm NmB at h
  simp only [Bool.and_eq_true, decide_eq_true_eq] at h
  exact h.1.2
theorem Nm.sg {x : Str} (h : Nm x) : ∀ c ∈ x.cps.toList, c ∈ sgns := by
  unfold Nm NmB at h
  simp only [Bool.and_eq_true, decide_eq_true_eq, List.all_eq_true, List.contains_iff_mem] at h
  exact h.2
theorem sgns_lt : ∀ c ∈ sgns, c < 128 := by decide
theorem Nm.ok {x : Str} (h : Nm x) : PyData.strOk x = true := by
  have h1 := h.sg
  unfold PyData.strOk
  rw [← Array.all_toList, List.all_eq_true]
  intro c hc
  have := sgns_lt c (h1 c hc)
  simp
  omega
def Nms (xs : List Str) : Prop := ∀ x ∈ xs, Nm x
theorem Nms.oks {xs : List Str} (h : Nms xs) : Oks xs := fun x hx => (h x hx).ok
/-! ## the order of texts -/
def sltb (a b : Str) : Bool := decide (a.cps.toList < b.cps.toList)
theorem str_ext {a b : Str} (h : a.cps.toList = b.cps.toList) : a = b := by
  obtain ⟨⟨x⟩⟩ := a
  obtain ⟨⟨y⟩⟩ := b
  simp at h
  rw [h]
theorem sltb_ord : Ordr sltb where
  irr a := by simp [sltb, List.lt_irrefl]
  tra a b c h1 h2 := by
    simp only [sltb, decide_eq_true_eq] at *
    exact List.lt_trans h1 h2
  tri a b h1 h2 := by
    simp only [sltb, decide_eq_false_iff_not] at *
    exact str_ext (List.le_antisymm (List.not_lt.mp h2) (List.not_lt.mp h1))
end K45
end
section
set_option maxRecDepth 100000
set_option maxHeartbeats 4000000
namespace K45
open PySem PySem.Spec L2
section
variable {P : Program} {w : World} {K : PySem.W.Frag} {mg : Str → Option Value} {base : Heap}
theorem lay_ints (xs : List Int) : Lay 1 (.list (xs.map PyData.int)) := Lay.list fun d hd => by
  obtain ⟨x, hx, rfl⟩ := List.mem_map.mp hd
  exact lay_int x
abbrev sc_law_draw_st : Stmt := top 53
abbrev sc_law_draw_N : List Str := ["_law_stream", "_law_many", "_law_cell", "_law_digit", "_law_mixed_here"]
theorem sc_law_draw : FnScope sc_law_draw_N ["_law_stream", "_law_many"] (C8.fnScope sc_law_draw_st) := C8.fnScope_by (by decide +kernel)
theorem c_law_draw (T : Txt K mg) (D : Dfn K mg "_law_draw" sc_law_draw_st ["_law_stream", "_law_many"]) : Call1 P w K mg base 1 "_law_draw" spDraw := by
  refine D.cal sc_law_draw (fun vs H Q E h => ?_) (fun f cdv A outer s H vs Q E hr h => ?_)
  · obtain ⟨p, q, c, n, rfl, _⟩ := h
    rfl
  · obtain ⟨p, q, c, n, rfl, S, hc, n0, n1, k⟩ := h
    have hu := hu_of hr
    refine ⟨_, (pss_cons (ps_asg (pe_op op_add (pe_ix (ix_listK K) (pv 0) pe_int (fun _ _ => rfl)) pe_int) (pg_sub (pv 0) pe_int set_list))
    (C8.pss_cut (ps_if (PW.pt (pw_and (pt_cmpR op_eq (pe_ix (ix_listK K) (pv 0) pe_int (fun _ _ => rfl)) pe_int (nomark _)) (pw_and1 (pt_cmpR (neDK K hr.units) (pe_ix (ix_listK K) (pv 0) pe_int (fun _ _ => rfl)) (pe_lst pa_nil) (nomark _))))) (pss_cons (ps_set (i := 2) sc_law_draw.nd rfl (by first | exact Or.inl rfl | exact Or.inr rfl) (bmK K PySem.F.plainAttrs_list PySem.F.slot_list_pop PySem.F.type_list_pop mt_popAt (pe_ix (ix_listK K) (pv 0) pe_int (fun _ _ => rfl)) (pa_cons pe_int pa_nil)))
      (pss_cons (ps_asg (pe_op op_mod (pe_callTy call_int1 (by rfl) T.n_int (by decide +kernel) (pa_cons (pe_op op_add (pe_op op_add (pe_op op_mul (pe_ix (ix_listK K) (pv 0) pe_int (fun _ _ => rfl)) pe_int) (pv 2)) pe_int) pa_nil)) pe_int) (pg_sub (pv 0) pe_int set_list))
      (pss_one (ps_asg (pe_ifExp (pt_cmpR op_ge (pv 2) (pe_op op_pow pe_int pe_int) (nomark _)) (pv 2) pe_int) (pg_sub (pv 0) pe_int set_list)))))
     pss_nil)
    (pss_cons (ps_if (pt_cmpR op_gt (pe_ix (ix_listK K) (pv 0) pe_int (fun _ _ => rfl)) pe_int (nomark _)) (pss_cons (ps_set (i := 3) sc_law_draw.nd rfl (by first | exact Or.inl rfl | exact Or.inr rfl) (pe_op op_mod (pe_callTy call_int1 (by rfl) T.n_int (by decide +kernel) (pa_cons (pe_ix (ix_listK K) (pv 0) pe_int (fun _ _ => rfl)) pa_nil)) (pv 1)))
      (pss_cons (ps_asg (pe_op op_fdiv (pe_ix (ix_listK K) (pv 0) pe_int (fun _ _ => rfl)) (pv 1)) (pg_sub (pv 0) pe_int set_list))
      (pss_one (ps_ret (pv 3)))))
     pss_nil)
    (pss_cons (ps_set (i := 4) sc_law_draw.nd rfl (by first | exact Or.inl rfl | exact Or.inr rfl) (pe_op op_mod (pe_callTy call_int1 (by rfl) T.n_int (by decide +kernel) (pa_cons (pe_op op_pow (pe_op op_add (pe_op op_add (pe_ix (ix_listK K) (pv 0) pe_int (fun _ _ => rfl)) (pe_op op_mul pe_int (pe_ix (ix_listK K) (pv 0) pe_int (fun _ _ => rfl)))) pe_int) pe_int) pa_nil)) pe_int))
    (pss_one (ps_ret (pe_op op_mod (pe_op op_mod (pe_callTy call_int1 (by rfl) T.n_int (by decide +kernel) (pa_cons (pe_op op_pow (pe_op op_add (pe_op op_add (pe_op op_mul (pv 4) pe_int) (pe_op op_mul pe_int (pe_ix (ix_listK K) (pv 0) pe_int (fun _ _ => rfl)))) pe_int) pe_int) pa_nil)) pe_int) (pv 1)))))))), ?_⟩
    obtain ⟨cells, a, e, h1, h2, a0, e0, e1⟩ := S.ex
    have npq := S.ne
    refine ⟨_, rfl, p, _, _, _, rfl, rfl, SqL.of h1, rfl, _, _, rfl, rfl, _, rfl, p, _, _, _, rfl, rfl, h1, rfl, ?_⟩
    -- what stands behind the if
    refine ⟨fun σ' H' => ∃ (v2 : Option V) (cells' : List Int) (a' e' : Int), σ' = [some (.ref p), some (.int n), v2, none, none] ∧ H' p = some (.lst [.ref q, .int a', .int ((c : Nat) + 1), .int e']) ∧ H' q = some (.lst (cells'.map V.int)) ∧ 0 ≤ a' ∧ 0 ≤ e' ∧ e' < 2147483647 ∧ SB p q H H', ?_, ?_⟩
    · -- the if
      refine at_heap (fun H1 => H1 p = some (.lst [.ref q, .int a, .int ((c : Nat) + 1), .int e]) ∧ H1 q = some (.lst (cells.map V.int)) ∧ SB p q H H1)
        ⟨upd_same, by rw [upd_ne npq.symm]; exact h2, fun b o eb h1 h2 => by rw [upd_ne h1]; exact eb⟩ fun H1 ⟨g1, g2, g3⟩ => ?_
      refine ⟨_, rfl, p, _, _, _, rfl, rfl, SqL.of g1, rfl, rfl, _, rfl, ?_⟩
      have skip : ∀ (H2 : Hp), Same H1 H2 → ∃ (v2 : Option V) (cells' : List Int) (a' e' : Int), ([some (.ref p), some (.int n), none, none, none] : St) = [some (.ref p), some (.int n), v2, none, none] ∧ H2 p = some (.lst [.ref q, .int a', .int ((c : Nat) + 1), .int e']) ∧ H2 q = some (.lst (cells'.map V.int)) ∧ 0 ≤ a' ∧ 0 ≤ e' ∧ e' < 2147483647 ∧ SB p q H H2 :=
        fun H2 sm => ⟨none, cells, a, e, rfl, sm _ _ g1, sm _ _ g2, a0, e0, e1, g3.trans (sb_of sm)⟩
      refine ite2 (fun _ => ?_) fun _ => ?_
      · refine ⟨_, rfl, p, _, _, _, rfl, rfl, SqL.of g1, rfl, (by decide), fun r hr0 => ?_⟩
        have sm := same_upd (o := .lst []) hr0
        refine ⟨.list (cells.map PyData.int), .list [], .lst (SqL.of (sm _ _ g2)) (dp_ints _), .lst (SqL.of upd_same) .nil, (lay_ints cells).shaped (by decide), (lay_ints []).shaped (by decide), _, rfl, ?_⟩
        have ee : PyData.eqv (.list (cells.map PyData.int)) (.list []) = decide (cells = []) := by
          cases cells <;> simp [PyData.eqv, PyData.eqvAll]
        rw [ee]
        by_cases hce : cells = []
        · rw [decide_eq_true hce]
          exact iteF (skip _ sm)
        · rw [decide_eq_false hce]
          refine iteT ?_
          obtain ⟨z, cells2, rfl⟩ := List.exists_cons_of_ne_nil hce
          refine at_heap (fun H2 => H2 p = some (.lst [.ref q, .int a, .int ((c : Nat) + 1), .int e]) ∧ H2 q = some (.lst ((z :: cells2).map V.int)) ∧ SB p q H H2)
            ⟨sm _ _ g1, sm _ _ g2, g3.trans (sb_of sm)⟩ fun H2 ⟨k1, k2, k3⟩ => ?_
          refine ⟨_, rfl, p, _, _, _, rfl, rfl, SqL.of k1, rfl, .inl ⟨rfl, _, SqL.of k2⟩, q, _, 0, 0, _, rfl, rfl, k2, (by decide), (by decide), (by simp [seqIndex?]), rfl, ?_⟩
          refine at_heap (fun H3 => H3 p = some (.lst [.ref q, .int a, .int ((c : Nat) + 1), .int e]) ∧ H3 q = some (.lst (cells2.map V.int)) ∧ SB p q H H3)
            ⟨by rw [upd_ne npq]; exact k1, upd_same, fun b o eb n1 n2 => by rw [upd_ne n2]; exact k3 b o eb n1 n2⟩ fun H3 ⟨l1, l2, l3⟩ => ?_
          refine ⟨_, rfl, p, _, _, _, rfl, rfl, SqL.of l1, rfl, _, _, rfl, rfl, .inl ⟨by omega, by omega⟩, _, rfl, _, _, rfl, rfl, _, _, rfl, rfl, .inl ⟨_, rfl, _, _, rfl, rfl, (by show (0 : Int) < 2147483647; decide), _, rfl, p, _, _, _, rfl, rfl, l1, rfl, ?_⟩⟩
          refine at_heap (fun H4 => H4 p = some (.lst [.ref q, .int a, .int ((c : Nat) + 1), .int ((e * 8191 + z + 3) % 2147483647)]) ∧ H4 q = some (.lst (cells2.map V.int)) ∧ SB p q H H4)
            ⟨upd_same, by rw [upd_ne npq.symm]; exact l2, fun b o eb n1 n2 => by rw [upd_ne n1]; exact l3 b o eb n1 n2⟩ fun H4 ⟨m1, m2, m3⟩ => ?_
          have e2 : 0 ≤ (e * 8191 + z + 3) % 2147483647 ∧ (e * 8191 + z + 3) % 2147483647 < 2147483647 := by omega
          refine ⟨_, rfl, _, _, rfl, rfl, ⟨by decide, by decide, by decide⟩, _, _, rfl, rfl, _, rfl, ?_⟩
          refine ite2 (fun hz => ?_) fun _ => ?_
          · have z0 : 0 ≤ z := by
              have : (10 : Int) ^ (18 : Int).toNat ≤ z := of_decide_eq_true hz
              have : (0 : Int) ≤ 10 ^ (18 : Int).toNat := by decide
              omega
            refine ⟨_, rfl, _, rfl, p, _, _, _, rfl, rfl, m1, rfl, ?_⟩
            exact ⟨_, cells2, z, _, rfl, upd_same, by rw [upd_ne npq.symm]; exact m2, z0, e2.1, e2.2, fun b o eb n1 n2 => by rw [upd_ne n1]; exact m3 b o eb n1 n2⟩
          · refine ⟨_, rfl, p, _, _, _, rfl, rfl, m1, rfl, ?_⟩
            exact ⟨_, cells2, 0, _, rfl, upd_same, by rw [upd_ne npq.symm]; exact m2, by decide, e2.1, e2.2, fun b o eb n1 n2 => by rw [upd_ne n1]; exact m3 b o eb n1 n2⟩
      · exact iteF (skip _ (Same.refl _))
    · rintro σ' H' ⟨v2, cells', a', e', rfl, g1, g2, a0', e0', e1', sb⟩
      have fin : ∀ (r : Int) (H2 : Hp) (a2 : Int), 0 ≤ r → r < n → 0 ≤ a2 → H2 p = some (.lst [.ref q, .int a2, .int ((c : Nat) + 1), .int e']) → H2 q = some (.lst (cells'.map V.int)) → SB p q H H2 → Q (.int r) H2 := fun r H2 a2 r0 r1 a2p x1 x2 x3 =>
        k r H2 r0 r1 ⟨⟨cells', a2, e', x1, x2, a2p, e0', e1'⟩, npq, hc⟩ x3
      refine ⟨_, rfl, p, _, _, _, rfl, rfl, SqL.of g1, rfl, _, _, rfl, rfl, _, rfl, ?_⟩
      refine ite2 (fun ha => ?_) fun _ => ?_
      · refine ⟨_, rfl, p, _, _, _, rfl, rfl, SqL.of g1, rfl, .inl ⟨_, rfl, _, rfl, _, _, rfl, rfl, n0, ?_⟩⟩
        refine ⟨_, rfl, p, _, _, _, rfl, rfl, SqL.of g1, rfl, _, rfl, _, _, rfl, rfl, ⟨n0, by omega⟩, _, rfl, p, _, _, _, rfl, rfl, g1, rfl, _, rfl, ?_⟩
        exact fin _ _ (a' / n) (Int.emod_nonneg _ (by omega)) (Int.emod_lt_of_pos _ n0) (Int.ediv_nonneg a0' (by omega)) upd_same (by rw [upd_ne npq.symm]; exact g2) fun b o eb n1 n2 => by rw [upd_ne n1]; exact sb b o eb n1 n2
      · have c0 : ((c : Nat) : Int) + 1 ≤ 1000000 := by omega
        have c1 : (0 : Int) ≤ ((c : Nat) : Int) + 1 := by omega
        refine ⟨_, rfl, p, _, _, _, rfl, rfl, SqL.of g1, rfl, _, rfl, p, _, _, _, rfl, rfl, SqL.of g1, rfl, _, _, rfl, rfl, .inl ⟨by decide, by decide⟩, _, _, rfl, rfl, _, _, rfl, rfl, _, _, rfl, rfl, ⟨by decide, by decide, ?_⟩, .inl ⟨_, rfl, _, _, rfl, rfl, (by show (0 : Int) < 2147483629; decide), ?_⟩⟩
        · show (e' + 7919 * (((c : Nat) : Int) + 1) + 104729).natAbs < 2 ^ 64
          omega
        · have m0 : 0 ≤ (e' + 7919 * (((c : Nat) : Int) + 1) + 104729) ^ (5 : Int).toNat % 2147483629 ∧ (e' + 7919 * (((c : Nat) : Int) + 1) + 104729) ^ (5 : Int).toNat % 2147483629 < 2147483629 :=
            ⟨Int.emod_nonneg _ (by decide), Int.emod_lt_of_pos _ (by decide)⟩
          have b1 : CMul ((e' + 7919 * (((c : Nat) : Int) + 1) + 104729) ^ (5 : Int).toNat % 2147483629) 48271 := .inr (by decide)
          refine ⟨_, rfl, _, _, rfl, rfl, b1, _, rfl, p, _, _, _, rfl, rfl, SqL.of g1, rfl, _, _, rfl, rfl, .inl ⟨by decide, by decide⟩, _, _, rfl, rfl, _, _, rfl, rfl, _, _, rfl, rfl, ⟨by decide, by decide, ?_⟩, .inl ⟨_, rfl, _, _, rfl, rfl, (by show (0 : Int) < 1000000007; decide), _, rfl, _, _, rfl, rfl, n0, ?_⟩⟩
          · show ((e' + 7919 * (((c : Nat) : Int) + 1) + 104729) ^ (5 : Int).toNat % 2147483629 * 48271 + 30011 * (((c : Nat) : Int) + 1) + 29).natAbs < 2 ^ 64
            generalize (e' + 7919 * (((c : Nat) : Int) + 1) + 104729) ^ (5 : Int).toNat % 2147483629 = mm at m0 ⊢
            omega
          · exact fin _ _ a' (Int.emod_nonneg _ (by omega)) (Int.emod_lt_of_pos _ n0) a0' g1 g2 sb
end
end K45
end
section
set_option maxRecDepth 100000
set_option maxHeartbeats 4000000
namespace K45
open PySem PySem.Spec L2
theorem SB.seq {K : PySem.W.Frag} {p q : Addr} {H H' : Hp} (a : SB p q H H') {l : Addr} {xs : List V} (h : SqL K H l xs) (h1 : l ≠ p) (h2 : l ≠ q) : SqL K H' l xs := by
  rcases h with (h | ⟨o, h⟩) | h
  · exact .inl (.inl (a _ _ h h1 h2))
  · exact .inl (.inr ⟨o, a _ _ h h1 h2⟩)
  · exact .inr h
theorem at_ofA {α : Type} {xs : List α} {z : Int} {j : Nat} {v : α} (e : z = (j : Int)) (h : xs[j]? = some v) : atI xs z = some v := by
  rw [e]; exact atI_nat h
theorem one_out {α : Type} : ∀ (l : List α) (i : Nat) (h : i < l.length), ([l[i]] ++ l.eraseIdx i).Perm l
  | [], i, h => by simp at h
  | a :: l, 0, h => by simp
  | a :: l, i + 1, h => by
    have hi : i < l.length := by simpa using h
    have ih := one_out l i hi
    simp only [List.getElem_cons_succ, List.eraseIdx_cons_succ]
    refine List.Perm.trans (List.Perm.swap a l[i] _) ?_
    exact List.Perm.cons a ih
theorem Str8.nnew {p q : Addr} {c : Nat} {H : Hp} (S : Str8 p q c H) {l : Addr} (h : H l = none) : l ≠ p ∧ l ≠ q := by
  obtain ⟨⟨o1, h1⟩, o2, h2⟩ := S.has
  refine ⟨fun z => ?_, fun z => ?_⟩
  · rw [z, h1] at h
    cases h
  · rw [z, h2] at h
    cases h
section
variable {P : Program} {w : World} {K : PySem.W.Frag} {mg : Str → Option Value} {base : Heap}
/-! ## picks -/
def spPick (K : PySem.W.Frag) : Sp := fun vs H Q _ => ∃ (p q l : Addr) (c : Nat) (xs : List V), vs = [.ref p, .ref l] ∧ Str8 p q c H ∧ c + 1 ≤ 1000000 ∧ SqL K H l xs ∧ l ≠ p ∧ l ≠ q ∧ 0 < xs.length ∧ xs.length < 1000 ∧
  ∀ (i : Nat) (v : V) (H' : Hp), xs[i]? = some v → Str8 p q (c + 1) H' → SB p q H H' → Q v H'
def spPickS : Sp := fun vs H Q _ => ∃ (p q : Addr) (c : Nat) (z : Str), vs = [.ref p, .str z] ∧ Str8 p q c H ∧ c + 1 ≤ 1000000 ∧ 0 < z.length ∧ z.length < 1000 ∧
  ∀ (i : Nat) (ch : Nat) (H' : Hp), z.cps.toList[i]? = some ch → Str8 p q (c + 1) H' → SB p q H H' → Q (.str ⟨#[ch]⟩) H'
abbrev sc_law_pick_st : Stmt := top 54
abbrev sc_law_pick_N : List Str := ["_law_stream", "_law_some"]
theorem sc_law_pick : FnScope sc_law_pick_N ["_law_stream", "_law_some"] (C8.fnScope sc_law_pick_st) := C8.fnScope_by (by decide +kernel)
theorem c_law_pick (T : Txt K mg) (D : Dfn K mg "_law_pick" sc_law_pick_st ["_law_stream", "_law_some"]) (c_law_draw : Call1 P w K mg base 1 "_law_draw" spDraw) : Call1 P w K mg base 2 "_law_pick" (spPick K) := by
  refine D.cal sc_law_pick (fun vs H Q E h => ?_) (fun f cdv A outer s H vs Q E hr h => ?_)
  · obtain ⟨p, q, l, c, xs, rfl, _⟩ := h
    rfl
  · obtain ⟨p, q, l, c, xs, rfl, S, hc, hl, n1, n2, x0, x1, k⟩ := h
    refine ⟨_, (pss_one (ps_ret (pe_ix (ix_seqK K) (pv 1) (C8.pe_c c_law_draw hr (by decide) (by rfl) (pa_cons (pv 0) (pa_cons (pe_callB (lenK K) (by rfl) T.n_len (by decide +kernel) (pa_cons (pv 1) pa_nil)) pa_nil))) (fun _ _ => rfl)))), ?_⟩
    refine ⟨_, rfl, _, rfl, _, rfl, _, _, rfl, .inl ⟨xs, hl, rfl⟩, p, q, c, _, rfl, S, hc, by omega, by omega, fun r H' r0 r1 S' sb => ?_⟩
    have hr1 : r.toNat < xs.length := by omega
    refine .inl ⟨l, xs, r, xs[r.toNat], rfl, rfl, sb.seq hl n1 n2, ?_, k r.toNat _ H' (List.getElem?_eq_getElem hr1) S' sb⟩
    exact at_ofA (j := r.toNat) (by omega) (List.getElem?_eq_getElem hr1)
theorem c_law_pickS (T : Txt K mg) (D : Dfn K mg "_law_pick" sc_law_pick_st ["_law_stream", "_law_some"]) (c_law_draw : Call1 P w K mg base 1 "_law_draw" spDraw) : Call1 P w K mg base 2 "_law_pick" spPickS := by
  refine D.cal sc_law_pick (fun vs H Q E h => ?_) (fun f cdv A outer s H vs Q E hr h => ?_)
  · obtain ⟨p, q, c, z, rfl, _⟩ := h
    rfl
  · obtain ⟨p, q, c, z, rfl, S, hc, x0, x1, k⟩ := h
    refine ⟨_, (pss_one (ps_ret (pe_ix (ix_seqK K) (pv 1) (C8.pe_c c_law_draw hr (by decide) (by rfl) (pa_cons (pv 0) (pa_cons (pe_callB (lenK K) (by rfl) T.n_len (by decide +kernel) (pa_cons (pv 1) pa_nil)) pa_nil))) (fun _ _ => rfl)))), ?_⟩
    have hz : z.length = z.cps.toList.length := by simp [Str.length]
    refine ⟨_, rfl, _, rfl, _, rfl, _, _, rfl, ⟨Nat.le_of_lt (small1000 (by omega)), rfl⟩, p, q, c, _, rfl, S, hc, by omega, by omega, fun r H' r0 r1 S' sb => ?_⟩
    have hr1 : r.toNat < z.cps.toList.length := by omega
    refine .inr (.inr ⟨z, r, z.cps.toList[r.toNat], rfl, rfl, Nat.le_of_lt (small1000 (by omega)), ?_, k r.toNat _ H' (List.getElem?_eq_getElem hr1) S' sb⟩)
    exact at_ofA (j := r.toNat) (by omega) (List.getElem?_eq_getElem hr1)
/-! ## a drawn order -/
def spMixed (K : PySem.W.Frag) : Sp := fun vs H Q _ => ∃ (p q l : Addr) (c : Nat) (xs : List V), vs = [.ref p, .ref l] ∧ Str8 p q c H ∧ c + xs.length ≤ 1000000 ∧ SqL K H l xs ∧ l ≠ p ∧ l ≠ q ∧ xs.length < 1000 ∧
  ∀ (ys : List V) (r : Addr) (H' : Hp), ys.Perm xs → H r = none → H' r = some (.lst ys) → Str8 p q (c + xs.length) H' → SB p q H H' → Q (.ref r) H'
abbrev sc_law_mixed_st : Stmt := top 55
abbrev sc_law_mixed_N : List Str := ["_law_stream", "_law_some", "_law_left", "_law_k"]
theorem sc_law_mixed : FnScope sc_law_mixed_N ["_law_stream", "_law_some"] (C8.fnScope sc_law_mixed_st) := C8.fnScope_by (by decide +kernel)
theorem c_law_mixed (T : Txt K mg) (D : Dfn K mg "_law_mixed" sc_law_mixed_st ["_law_stream", "_law_some"]) (c_law_draw : Call1 P w K mg base 1 "_law_draw" spDraw) : Call1 P w K mg base 2 "_law_mixed" (spMixed K) := by
  refine D.cal sc_law_mixed (fun vs H Q E h => ?_) (fun f cdv A outer s H vs Q E hr h => ?_)
  · obtain ⟨p, q, l, c, xs, rfl, _⟩ := h
    rfl
  · obtain ⟨p, q, l, c, xs, rfl, S, hc, hl, n1, n2, x1, k⟩ := h
    refine ⟨_, (pss_cons (ps_set (i := 2) sc_law_mixed.nd rfl (by first | exact Or.inl rfl | exact Or.inr rfl) (pe_callTy (listK K) (by rfl) T.n_list (by decide +kernel) (pa_cons (pv 1) pa_nil)))
    (pss_one (ps_ret (pe_lc (own := [("_law_k", 3)]) (g := (gName 3)) (tt := tYes) rfl sc_law_mixed.nd (pi_range1 (by rfl) T.n_range (pa_cons (pe_callB (lenK K) (by rfl) T.n_len (by decide +kernel) (pa_cons (pv 2) pa_nil)) pa_nil)) (blkOk_by (N := sc_law_mixed_N) (sc := C8.fnScope sc_law_mixed_st) (by decide +kernel)) (fun _ _ _ _ _ => (pg_name (i := 3) sc_law_mixed.nd rfl (by first | exact Or.inl rfl | exact Or.inr rfl))) (fun _ _ _ _ _ => pts_nil) (fun _ _ _ _ _ => (bmK K PySem.F.plainAttrs_list PySem.F.slot_list_pop PySem.F.type_list_pop mt_popAt (pv 2) (pa_cons (C8.pe_c c_law_draw hr (by decide) (by rfl) (pa_cons (pv 0) (pa_cons (pe_callB (lenK K) (by rfl) T.n_len (by decide +kernel) (pa_cons (pv 2) pa_nil)) pa_nil))) pa_nil))))))), ?_⟩
    refine ⟨_, rfl, l, xs, rfl, .inl hl, fun lf hlf => ?_⟩
    have s1 := same_upd (o := .lst xs) hlf
    refine ⟨_, rfl, _, _, rfl, .inl ⟨xs, SqL.of upd_same, rfl⟩, _, rfl, by omega, by omega, fun Dn hD => ?_⟩
    have hDl : Dn ≠ lf := fun z => by rw [z, upd_same] at hD; cases hD
    have hD0 : H Dn = none := by rw [upd_ne hDl] at hD; exact hD
    have nD := S.nnew hD0
    have nL := S.nnew hlf
    refine lc_range (lo := 0) (n := xs.length) (fun i H2 => ∃ left done : List V, H2 lf = some (.lst left) ∧ H2 Dn = some (.lst done) ∧ (done ++ left).Perm xs ∧ done.length = i ∧ Str8 p q (c + i) H2 ∧ SB p q H H2) ?_ ?_ ?_
    · refine ⟨xs, [], by rw [upd_ne hDl.symm]; exact upd_same, upd_same, List.Perm.refl _, rfl, (S.new hlf).new hD, (SB.refl p q H).new hlf |>.new ?_⟩
      exact hD0
    · rintro i H2 hi ⟨left, done, g1, g2, pm, hd, S2, sb⟩
      have hlen := pm.length_eq
      rw [List.length_append] at hlen
      refine ⟨rfl, _, rfl, .inl ⟨rfl, _, SqL.of g1⟩, _, rfl, _, rfl, _, _, rfl, .inl ⟨left, SqL.of g1, rfl⟩, p, q, c + i, _, rfl, S2, by omega, by omega, by omega, fun r H3 r0 r1 S3 sb3 => ?_⟩
      have hr1 : r.toNat < left.length := by omega
      have g1' := sb3 _ _ g1 nL.1 nL.2
      have g2' := sb3 _ _ g2 nD.1 nD.2
      refine ⟨lf, left, r, r.toNat, left[r.toNat], rfl, rfl, g1', by omega, by omega, ?_, List.getElem?_eq_getElem hr1, done, by rw [upd_ne hDl]; exact g2', by rw [sizeLine_eq]; omega, ?_⟩
      · unfold seqIndex?
        have e1 : ¬ r < 0 := by omega
        have e2 : r < (left.length : Int) := by omega
        simp [e1, e2, r0]
      · refine ⟨left.eraseIdx r.toNat, done ++ [left[r.toNat]], by rw [upd_ne hDl.symm]; exact upd_same, upd_same, ?_, by simp [hd], (S3.put nL.1 nL.2).put nD.1 nD.2, fun b o eb h1 h2 => ?_⟩
        · refine List.Perm.trans ?_ pm
          rw [List.append_assoc]
          exact List.Perm.append_left _ (one_out left r.toNat hr1)
        · have hb1 : b ≠ Dn := ne_of_none eb hD0
          have hb2 : b ≠ lf := ne_of_none eb hlf
          rw [upd_ne hb1, upd_ne hb2]
          exact sb3 _ _ (sb b o eb h1 h2) h1 h2
    · rintro H2 ⟨left, done, g1, g2, pm, hd, S2, sb⟩
      have hlen := pm.length_eq
      rw [List.length_append] at hlen
      have : left = [] := List.length_eq_zero_iff.mp (by omega)
      subst this
      rw [List.append_nil] at pm
      exact k done Dn H2 pm hD0 g2 S2 sb
/-! ## names -/
theorem perm_map {α β : Type} {f : α → β} {g : β → α} (hg : ∀ x, g (f x) = x) {ys : List β} {xs : List α} (h : ys.Perm (xs.map f)) : ∃ zs : List α, zs.Perm xs ∧ ys = zs.map f := by
  refine ⟨ys.map g, ?_, ?_⟩
  · have h1 := h.map g
    rw [List.map_map] at h1
    have e : xs.map (g ∘ f) = xs := by
      conv => rhs; rw [← List.map_id xs]
      exact List.map_congr_left fun x _ => hg x
    rw [e] at h1
    exact h1
  · rw [List.map_map]
    conv => lhs; rw [← List.map_id ys]
    refine List.map_congr_left fun y hy => ?_
    obtain ⟨x, _, rfl⟩ := List.mem_map.mp (h.mem_iff.mp hy)
    show f x = f (g (f x))
    rw [hg]
def vStr : V → Str | .str x => x | _ => ⟨#[]⟩
theorem inV_strs (x : Str) (xs : List Str) : inV (.str x) (xs.map V.str) = decide (x ∈ xs) := by
  induction xs with
  | nil => simp [inV]
  | cons y ys ih =>
    have e : inV (.str x) ((y :: ys).map V.str) = (eqV (.str y) (.str x) || inV (.str x) (ys.map V.str)) := rfl
    rw [e, ih]
    show ((y == x) || _) = _
    by_cases h1 : y = x
    · subst h1; simp
    · have : (y == x) = false := beq_eq_false_iff_ne.mpr h1
      rw [this, Bool.false_or]
      have h2 : ¬ x = y := fun e => h1 e.symm
      simp [h2]
theorem flat_strs (ys : List Str) : (ys.map V.str).all flatV = true := by
  rw [List.all_map]
  exact List.all_eq_true.mpr fun _ _ => rfl
theorem nm_of {x : Str} {l : List Nat} (e : x.cps.toList = l) (h0 : 0 < l.length) (h1 : l.length ≤ 12) (h2 : ∀ c ∈ l, c ∈ sgns) : Nm x := by
  have hl : x.length = l.length := by rw [← e]; simp [Str.length]
  unfold Nm NmB
  simp only [Bool.and_eq_true, decide_eq_true_eq, List.all_eq_true, List.contains_iff_mem, e, hl]
  exact ⟨⟨h0, h1⟩, h2⟩
theorem len_tl (x : Str) : x.length = x.cps.toList.length := by simp [Str.length]
def spName : Sp := fun vs H Q _ => ∃ (p q : Addr) (c : Nat), vs = [.ref p] ∧ Str8 p q c H ∧ c + 9 ≤ 1000000 ∧
  ∀ (z : Str) (c' : Nat) (H' : Hp), Nm z → c' ≤ c + 9 → Str8 p q c' H' → SB p q H H' → Q (.str z) H'
theorem abc_text : (("abcdefghijklmnopqrstuvwxyz" : Str)).cps.toList = [97, 98, 99, 100, 101, 102, 103, 104, 105, 106, 107, 108, 109, 110, 111, 112, 113, 114, 115, 116, 117, 118, 119, 120, 121, 122] := by decide +kernel
theorem joinL_nil : ∀ (l : List (List Nat)), TL.joinL [] l = l.flatten
  | [] => rfl
  | [p] => by simp [TL.joinL]
  | p :: r :: l => by
    show p ++ ([] ++ TL.joinL [] (r :: l)) = _
    rw [List.nil_append, joinL_nil (r :: l)]
    rfl
theorem join_one (zs : List Nat) : TL.tl (Txt.join ("" : Str) (zs.map fun c => (⟨#[c]⟩ : Str))) = zs := by
  rw [TL.join_eq, TL.tl_join]
  have e : TL.tl ("" : Str) = [] := by decide +kernel
  rw [e, joinL_nil, List.map_map]
  induction zs with
  | nil => rfl
  | cons z zs ih =>
    show z :: (List.map _ zs).flatten = z :: zs
    rw [ih]
abbrev sc_law_name_st : Stmt := top 57
abbrev sc_law_name_N : List Str := ["_law_stream", "_law_width", "_law_k"]
theorem sc_law_name : FnScope sc_law_name_N ["_law_stream"] (C8.fnScope sc_law_name_st) := C8.fnScope_by (by decide +kernel)
theorem c_law_name (T : Txt K mg) (D : Dfn K mg "_law_name" sc_law_name_st ["_law_stream"]) (c_law_draw : Call1 P w K mg base 1 "_law_draw" spDraw) (c_law_pick : Call1 P w K mg base 2 "_law_pick" spPickS) : Call1 P w K mg base 3 "_law_name" spName := by
  refine D.cal sc_law_name (fun vs H Q E h => ?_) (fun f cdv A outer s H vs Q E hr h => ?_)
  · obtain ⟨p, q, c, rfl, _⟩ := h
    rfl
  · obtain ⟨p, q, c, rfl, S, hc, k⟩ := h
    refine ⟨_, (pss_cons (ps_set (i := 1) sc_law_name.nd rfl (by first | exact Or.inl rfl | exact Or.inr rfl) (pe_ix (ix_listK K) (pe_lst (pa_cons pe_int (pa_cons pe_int (pa_cons pe_int (pa_cons pe_int (pa_cons pe_int (pa_cons pe_int pa_nil))))))) (C8.pe_c c_law_draw hr (by decide) (by rfl) (pa_cons (pv 0) (pa_cons pe_int pa_nil))) (fun _ _ => rfl)))
    (pss_one (ps_ret (pe_join pe_str (pe_lc (own := [("_law_k", 2)]) (g := (gName 2)) (tt := tYes) rfl sc_law_name.nd (pi_range1 (by rfl) T.n_range (pa_cons (pv 1) pa_nil)) (blkOk_by (N := sc_law_name_N) (sc := C8.fnScope sc_law_name_st) (by decide +kernel)) (fun _ _ _ _ _ => (pg_name (i := 2) sc_law_name.nd rfl (by first | exact Or.inl rfl | exact Or.inr rfl))) (fun _ _ _ _ _ => pts_nil) (fun _ _ _ _ _ => (C8.pe_c c_law_pick hr (by decide) (by rfl) (pa_cons (pv 0) (pa_cons pe_str pa_nil))))))))), ?_⟩
    refine ⟨by decide, fun r hr0 => ?_⟩
    have s1 := same_upd (o := .lst [.int 1, .int 1, .int 2, .int 3, .int 5, .int 8]) hr0
    refine ⟨_, rfl, p, q, c, _, rfl, S.new hr0, by omega, by decide, by decide, fun i H1 i0 i1 S1 sb1 => ?_⟩
    have nr := S.nnew hr0
    have g1 := sb1 _ _ upd_same nr.1 nr.2
    have wide : ∃ (n : Nat), 1 ≤ n ∧ n ≤ 8 ∧ atI [V.int 1, V.int 1, V.int 2, V.int 3, V.int 5, V.int 8] i = some (.int (n : Nat)) := by
      have : i = 0 ∨ i = 1 ∨ i = 2 ∨ i = 3 ∨ i = 4 ∨ i = 5 := by omega
      rcases this with rfl | rfl | rfl | rfl | rfl | rfl
      · exact ⟨1, by decide, by decide, rfl⟩
      · exact ⟨1, by decide, by decide, rfl⟩
      · exact ⟨2, by decide, by decide, rfl⟩
      · exact ⟨3, by decide, by decide, rfl⟩
      · exact ⟨5, by decide, by decide, rfl⟩
      · exact ⟨8, by decide, by decide, rfl⟩
    obtain ⟨n, w1, w2, hw⟩ := wide
    refine ⟨r, _, i, _, rfl, rfl, SqL.of g1, hw, ⟨_, rfl⟩, _, rfl, _, rfl, by omega, by omega, fun Dn hD => ?_⟩
    have sbA : SB p q H H1 := (sb_of s1).trans sb1
    have hD0 : H Dn = none := sbA.free S1 hD
    have nD := S1.nnew hD
    refine lc_range (lo := 0) (n := n) (fun j H2 => ∃ zs : List Nat, H2 Dn = some (.lst (zs.map fun c => V.str ⟨#[c]⟩)) ∧ zs.length = j ∧ (∀ c ∈ zs, c ∈ sgns) ∧ Str8 p q (c + 1 + j) H2 ∧ SB p q H H2) ?_ ?_ ?_
    · exact ⟨[], upd_same, rfl, by simp, S1.new hD, sbA.new hD0⟩
    · rintro j H2 hj ⟨zs, g2, hz, hs, S2, sb2⟩
      refine ⟨rfl, _, rfl, p, q, _, _, rfl, S2, by omega, by decide, by decide, fun i2 ch H3 hi2 S3 sb3 => ?_⟩
      refine ⟨_, sb3 _ _ g2 nD.1 nD.2, by rw [List.length_map, sizeLine_eq]; omega, zs ++ [ch], ?_, by simp [hz], fun c hc => ?_, S3.put nD.1 nD.2, fun b o eb h1 h2 => ?_⟩
      · rw [upd_same, List.map_append]
        rfl
      · rcases List.mem_append.mp hc with h | h
        · exact hs c h
        · rw [List.mem_singleton.mp h]
          rw [abc_text] at hi2
          have := List.mem_of_getElem? hi2
          revert this
          generalize ch = x
          intro this
          simp only [List.mem_cons, List.not_mem_nil, or_false] at this
          unfold sgns
          simp only [List.mem_cons, List.not_mem_nil, or_false]
          omega
      · rw [upd_ne (ne_of_none eb hD0)]
        exact sb3 _ _ (sb2 b o eb h1 h2) h1 h2
    · rintro H2 ⟨zs, g2, hz, hs, S2, sb2⟩
      have e1 : (zs.map fun c => V.str ⟨#[c]⟩) = (zs.map fun c => (⟨#[c]⟩ : Str)).map V.str := by rw [List.map_map]; rfl
      rw [e1] at g2
      refine ⟨_, Dn, _, rfl, rfl, .inl (SqL.of g2), ?_, ?_⟩
      · have : ((zs.map fun c => (⟨#[c]⟩ : Str)).map (·.length)).sum = zs.length := by
          clear g2 e1 hs hz
          induction zs with
          | nil => rfl
          | cons z zs ih => simp only [List.map_cons, List.sum_cons, ih, List.length_cons]; show 1 + _ = _; omega
        rw [this]
        have e2 : ("" : Str).length = 0 := by decide +kernel
        rw [e2]
        omega
      · exact k _ _ H2 (nm_of (join_one zs) (by omega) (by omega) hs) (by omega) S2 sb2
def spNames : Sp := fun vs H Q _ => ∃ (p q : Addr) (c n : Nat), vs = [.ref p, .int (n : Nat)] ∧ Str8 p q c H ∧ c + 9 * n ≤ 1000000 ∧ n ≤ 8 ∧
  ∀ (ns : List Str) (r : Addr) (c' : Nat) (H' : Hp), ns.length = n → ns.Nodup → Nms ns → H r = none → H' r = some (.lst (ns.map V.str)) → c' ≤ c + 9 * n → Str8 p q c' H' → SB p q H H' → Q (.ref r) H'
theorem ap_text : (("abcdefghijklmnop" : Str)).cps.toList = [97, 98, 99, 100, 101, 102, 103, 104, 105, 106, 107, 108, 109, 110, 111, 112] := by decide +kernel
theorem jq_text : (("jq" : Str)).cps.toList = [106, 113] := by decide +kernel
def spares : List Str := ([97, 98, 99, 100, 101, 102, 103, 104, 105, 106, 107, 108, 109, 110, 111, 112] : List Nat).map fun c => (⟨#[c]⟩ : Str) ++ "jq"
theorem spare_tl (c : Nat) : ((⟨#[c]⟩ : Str) ++ "jq").cps.toList = [c, 106, 113] := by
  have e := TL.tl_append (⟨#[c]⟩ : Str) "jq"
  rw [show TL.tl ("jq" : Str) = [106, 113] from jq_text] at e
  exact e
theorem spares_nm : ∀ x ∈ spares, Nm x := by
  intro x hx
  obtain ⟨c, hc, rfl⟩ := List.mem_map.mp hx
  refine nm_of (spare_tl c) (by simp) (by simp) ?_
  intro d hd
  simp only [List.mem_cons, List.not_mem_nil, or_false] at hd hc
  unfold sgns
  simp only [List.mem_cons, List.not_mem_nil, or_false]
  omega
theorem spares_nodup : spares.Nodup := by
  unfold spares
  refine List.pairwise_map.mpr (List.Pairwise.imp (fun {a b} hab e => hab ?_) (show List.Pairwise (· ≠ ·) _ by decide))
  have h := congrArg (fun z : Str => z.cps.toList) e
  simp only [spare_tl] at h
  exact (List.cons.inj h).1
abbrev sc_law_names_st : Stmt := top 58
abbrev sc_law_names_N : List Str := ["_law_stream", "_law_many", "_law_found", "_law_k", "_law_spare", "_law_letter", "_law_x"]
theorem sc_law_names : FnScope sc_law_names_N ["_law_stream", "_law_many"] (C8.fnScope sc_law_names_st) := C8.fnScope_by (by decide +kernel)
theorem c_law_names (T : Txt K mg) (D : Dfn K mg "_law_names" sc_law_names_st ["_law_stream", "_law_many"]) (c_law_name : Call1 P w K mg base 3 "_law_name" spName) : Call1 P w K mg base 4 "_law_names" spNames := by
  refine D.cal sc_law_names (fun vs H Q E h => ?_) (fun f cdv A outer s H vs Q E hr h => ?_)
  · obtain ⟨p, q, c, n, rfl, _⟩ := h
    rfl
  · obtain ⟨p, q, c, n, rfl, S, hc, hn, k⟩ := h
    refine ⟨_, (pss_cons (ps_set (i := 2) sc_law_names.nd rfl (by first | exact Or.inl rfl | exact Or.inr rfl) (pe_lst pa_nil))
    (pss_cons (ps_for PassesOwn.never rfl (pi_range1 (by rfl) T.n_range (pa_cons (pv 1) pa_nil)) (pg_name (i := 3) sc_law_names.nd rfl (by first | exact Or.inl rfl | exact Or.inr rfl))
     (pss_cons (ps_set (i := 4) sc_law_names.nd rfl (by first | exact Or.inl rfl | exact Or.inr rfl) (pe_op op_cat (pe_lst (pa_cons (C8.pe_c c_law_name hr (by decide) (by rfl) (pa_cons (pv 0) pa_nil)) pa_nil)) (pe_lc (own := [("_law_letter", 5)]) (g := (gName 5)) (tt := tYes) rfl sc_law_names.nd (pi_str pe_str) (blkOk_by (N := sc_law_names_N) (sc := C8.fnScope sc_law_names_st) (by decide +kernel)) (fun _ _ _ _ _ => (pg_name (i := 5) sc_law_names.nd rfl (by first | exact Or.inl rfl | exact Or.inr rfl))) (fun _ _ _ _ _ => pts_nil) (fun _ _ _ _ _ => (pe_op op_add_str (pv 5) pe_str)))))
      (pss_one (ps_expr (bmK K PySem.F.plainAttrs_list PySem.F.slot_list_append PySem.F.type_list_append mt_append (pv 2) (pa_cons (pe_ix (ix_listK K) (pe_lc (own := [("_law_x", 6)]) (g := (gName 6)) rfl sc_law_names.nd (listI K (pv 4)) (blkOk_by (N := sc_law_names_N) (sc := C8.fnScope sc_law_names_st) (by decide +kernel)) (fun _ _ _ _ _ => (pg_name (i := 6) sc_law_names.nd rfl (by first | exact Or.inl rfl | exact Or.inr rfl))) (fun _ _ _ _ _ => (pts_one (pt_cmpR (notInSeqK K) (pv 6) (pv 2) rfl))) (fun _ _ _ _ _ => (pv 6))) pe_int (fun _ _ => rfl)) pa_nil))))))
    (pss_one (ps_ret (pv 2))))), ?_⟩
    refine ⟨by decide, fun r hr0 => ?_⟩
    refine ⟨_, rfl, _, rfl, by omega, by omega, for_range (lo := 0) (n := n) (fun i σ H2 => ∃ (fs : List Str) (c' : Nat) (v3 v4 v5 v6 : Option V), σ = [some (.ref p), some (.int (n : Nat)), some (.ref r), v3, v4, v5, v6] ∧ H2 r = some (.lst (fs.map V.str)) ∧ fs.length = i ∧ fs.Nodup ∧ Nms fs ∧ c' ≤ c + 9 * i ∧ Str8 p q c' H2 ∧ SB p q H H2) ?_ ?_ ?_⟩
    · exact ⟨[], c, none, none, none, none, rfl, upd_same, rfl, List.nodup_nil, by simp [Nms], Nat.le_refl _, S.new hr0, (SB.refl p q H).new hr0⟩
    · rintro i σ H2 hi ⟨fs, c', v3, v4, v5, v6, rfl, g1, hl, nd, nm, hc', S2, sb⟩
      have nr := S.nnew hr0
      -- spare
      refine ⟨_, rfl, p, q, c', rfl, S2, by omega, fun z c2 H3 nz hc2 S3 sb3 => ?_⟩
      refine ⟨sz_le (by simp), fun l1 hl1 => ?_⟩
      have g2 := sb3 _ _ g1 nr.1 nr.2
      have n1 := S3.nnew hl1
      refine ⟨_, rfl, fun l2 hl2 => ?_⟩
      have l12 : l1 ≠ l2 := fun z => by rw [← z, upd_same] at hl2; cases hl2
      refine lc_it (Walk.mono walk_str (fun H h => h) fun i H x H' _ _ y => y) (fun j H4 => H4 l2 = some (.lst ((spares.take j).map V.str)) ∧ Same (upd H3 l1 (.lst [.str z])) H4) ?_ ?_ ?_ ?_
      · exact ⟨upd_same, same_upd hl2⟩
      · exact fun _ _ _ _ => trivial
      · rintro j x H4 H5 hj ⟨g3, sm⟩ ⟨rfl, ch, hch, rfl⟩
        have hj' : j < 16 := by
          have : ("abcdefghijklmnop" : Str).cps.size = 16 := by decide +kernel
          rw [this] at hj; exact hj
        refine ⟨rfl, _, rfl, _, _, rfl, rfl, ?_, _, g3, ?_, ?_, ?_⟩
        · have e2 : ("jq" : Str).length = 2 := by decide +kernel
          rw [e2]
          exact sz_le (by show 1 + 2 ≤ 1000; decide)
        · rw [List.length_map]
          exact small1000 (Nat.le_trans (List.length_take_le _ _) (by omega))
        · have hs : spares[j]? = some ((⟨#[ch]⟩ : Str) ++ "jq") := by
            have h1 : ("abcdefghijklmnop" : Str).cps.toList[j]? = some ch := by rw [Array.getElem?_toList]; exact hch
            rw [ap_text] at h1
            unfold spares
            rw [List.getElem?_map, h1]
            rfl
          rw [upd_same, List.take_add_one, hs, List.map_append]
          rfl
        · exact fun b o eb => by rw [upd_ne (ne_of_none eb hl2)]; exact sm b o eb
      · rintro H4 ⟨g3, sm⟩
        have e16 : ("abcdefghijklmnop" : Str).cps.size = 16 := by decide +kernel
        rw [e16, List.take_of_length_le (by decide)] at g3
        -- the list of all
        have g4 := sm _ _ (upd_same (H := H3) (a := l1) (o := .lst [.str z]))
        refine ⟨l1, l2, _, _, rfl, rfl, g4, g3, sz_le (by simp [spares]), fun l3 hl3 => ?_⟩
        have sm3 : Same H3 H4 := fun b o eb => sm b o (same_upd hl1 b o eb)
        have hl30 : H3 l3 = none := Same.free sm3 hl3
        have n3 := S3.nnew hl30
        have hl30' : H l3 = none := (sb.trans sb3).free S3 hl30
        refine at_heap (fun H5 => H5 r = some (.lst (fs.map V.str)) ∧ H5 l3 = some (.lst ((z :: spares).map V.str)) ∧ Str8 p q c2 H5 ∧ SB p q H H5)
          ⟨by rw [upd_ne (ne_of_none (sm3 _ _ g2) hl3)]; exact sm3 _ _ g2, upd_same, (S3.same sm3).new hl3, ((sb.trans sb3).trans (sb_of sm3)).new hl30'⟩ fun H5 ⟨k1, k2, S5, sb5⟩ => ?_
        refine ⟨_, rfl, .inl ⟨rfl, _, SqL.of k1⟩, _, rfl, l3, rfl, ⟨_, SqL.of k2⟩, fun Dn hD => ?_⟩
        have hD0 : H Dn = none := sb5.free S5 hD
        have nD := S5.nnew hD
        refine lc_list (K := K) (a := l3) (xs := (z :: spares).map V.str) (fun j H6 => H6 Dn = some (.lst ((((z :: spares).take j).filter fun x => decide (x ∉ fs)).map V.str)) ∧ Same H5 H6) ⟨upd_same, same_upd hD⟩ (fun j H6 _ ⟨_, s6⟩ => s6.seq (SqL.of k2)) ?_ ?_
        · rintro j x H6 hj ⟨g6, s6⟩
          rw [List.getElem?_map] at hj
          cases hx : (z :: spares)[j]? with
          | none => rw [hx] at hj; cases hj
          | some y =>
            rw [hx] at hj
            obtain rfl : V.str y = x := Option.some.inj hj
            refine ⟨rfl, _, rfl, _, rfl, r, _, rfl, .inl (SqL.of (s6 _ _ k1)), rfl, flat_strs fs, _, rfl, ?_⟩
            rw [inV_strs]
            by_cases hy : y ∈ fs
            · rw [decide_eq_true hy]
              refine iteF ⟨?_, s6⟩
              rw [List.take_add_one, hx, List.filter_append]
              simp only [Option.toList, List.filter_cons, List.filter_nil, hy, not_true_eq_false, decide_false]
              rw [if_neg (by simp), List.append_nil]
              exact g6
            · rw [decide_eq_false hy]
              refine iteT ⟨_, rfl, _, g6, ?_, ?_, ?_⟩
              · rw [List.length_map]
                exact small1000 (Nat.le_trans (List.length_filter_le _ _) (Nat.le_trans (List.length_take_le' _ _) (by simp [spares])))
              · rw [upd_same, List.take_add_one, hx, List.filter_append]
                simp [hy]
              · exact fun b o eb => by rw [upd_ne (ne_of_none eb hD)]; exact s6 b o eb
        · rintro H6 ⟨g6, s6⟩
          rw [List.length_map, List.take_length] at g6
          have ex : ∃ y ys, (z :: spares).filter (fun x => decide (x ∉ fs)) = y :: ys := by
            have h0 : (z :: spares).filter (fun x => decide (x ∉ fs)) ≠ [] := by
              intro e0
              have all : ∀ x ∈ spares, x ∈ fs := fun x hx => by
                have := (List.filter_eq_nil_iff.mp e0) x (by simp [hx])
                simpa using this
              have := nodup_len spares_nodup all
              have : spares.length = 16 := by decide
              omega
            exact List.exists_cons_of_ne_nil h0
          obtain ⟨y, ys, ey⟩ := ex
          have hy := List.mem_filter.mp (show y ∈ (z :: spares).filter (fun x => decide (x ∉ fs)) by rw [ey]; simp)
          rw [ey] at g6
          refine ⟨Dn, _, 0, V.str y, rfl, rfl, SqL.of g6, at_ofA (j := 0) rfl rfl, r, _, _, rfl, rfl, s6 _ _ k1, small1000 (by rw [List.length_map]; omega), ?_⟩
          have hyf : y ∉ fs := by simpa using hy.2
          refine ⟨fs ++ [y], c2, _, _, _, _, rfl, ?_, by simp [hl], nd_snoc nd hyf, fun x hx => ?_, by omega, (S5.same s6).put nr.1 nr.2, fun b o eb h1 h2 => ?_⟩
          · rw [upd_same, List.map_append]
            rfl
          · rcases List.mem_append.mp hx with h | h
            · exact nm x h
            · rw [List.mem_singleton.mp h]
              rcases List.mem_cons.mp hy.1 with e | e
              · rw [e]; exact nz
              · exact spares_nm y e
          · rw [upd_ne (ne_of_none eb hr0)]
            exact s6 _ _ (sb5 b o eb h1 h2)
    · rintro σ H2 ⟨fs, c', v3, v4, v5, v6, rfl, g1, hl, nd, nm, hc', S2, sb⟩
      exact ⟨_, rfl, k fs r c' H2 hl nd nm hr0 g1 hc' S2 sb⟩
end
end K45
end
section
set_option maxRecDepth 100000
set_option maxHeartbeats 4000000
namespace K45
open PySem PySem.Spec L2
/-! ## machines: what moves are -/
structure Mch where
  S : List Str
  L : List Str
  g : Str → Str → Str
  d : Str → Str → Str
structure Mch.Ok (M : Mch) : Prop where
  s0 : M.S ≠ []
  sn : M.S.Nodup
  sm : Nms M.S
  sf : M.S.length ≤ 8
  l0 : M.L ≠ []
  ln : M.L.Nodup
  lm : Nms M.L
  lf : M.L.length ≤ 8
  st : Stays M.S M.L M.d
  sg : ∀ s ∈ M.S, ∀ a ∈ M.L, Nm (M.g s a)
/-- a table: keys and values -/
def tab (ks : List Str) (f : Str → V) : List (Key × V) := ks.map fun k => (Sum.inr k, f k)
theorem tab_keys (ks : List Str) (f : Str → V) : (tab ks f).map (fun kv => kV kv.1) = ks.map V.str := by
  unfold tab; rw [List.map_map]; rfl
theorem tab_len (ks : List Str) (f : Str → V) : (tab ks f).length = ks.length := by simp [tab]
theorem tab_val {f : Str → V} {x : Str} : ∀ {ks : List Str}, valV (tab ks f) (Sum.inr x : Key) = if x ∈ ks then some (f x) else none
  | [] => by simp [tab, valV_nil]
  | k :: ks => by
    show valV ((Sum.inr k, f k) :: tab ks f) _ = _
    by_cases h : k = x
    · subst h
      rw [valV_pos rfl]; simp
    · rw [valV_neg (fun e => h (Sum.inr.inj e)), tab_val (ks := ks)]
      have : ¬ x = k := fun e => h e.symm
      simp [this]
theorem tab_in {f : Str → V} {x : Str} {ks : List Str} (h : x ∈ ks) : valV (tab ks f) (Sum.inr x : Key) = some (f x) := by rw [tab_val, if_pos h]
theorem tab_out {f : Str → V} {x : Str} {ks : List Str} (h : x ∉ ks) : valV (tab ks f) (Sum.inr x : Key) = none := by rw [tab_val, if_neg h]
theorem tab_congr {f f' : Str → V} {ks : List Str} (h : ∀ k ∈ ks, f k = f' k) : tab ks f = tab ks f' := by
  unfold tab
  exact List.map_congr_left fun k hk => by rw [h k hk]
theorem tab_new {f : Str → V} {x : Str} {v : V} {ks : List Str} (h : x ∉ ks) : putK (tab ks f) (Sum.inr x : Key) v = tab (ks ++ [x]) (fun k => if k = x then v else f k) := by
  rw [putK_new v (tab_out h)]
  unfold tab
  rw [List.map_append]
  congr 1
  · refine List.map_congr_left fun k hk => ?_
    have : ¬ k = x := fun e => h (e ▸ hk)
    simp [this]
  · simp
theorem tab_old {f : Str → V} {x : Str} {v : V} {ks : List Str} (h : x ∈ ks) : putK (tab ks f) (Sum.inr x : Key) v = tab ks (fun k => if k = x then v else f k) := by
  unfold putK
  rw [if_pos (by rw [valV_any, tab_in h]; rfl)]
  unfold tab
  rw [List.map_map]
  refine List.map_congr_left fun k _ => ?_
  by_cases e : k = x
  · subst e; simp
  · have : ¬ (Sum.inr k : Key) = Sum.inr x := fun z => e (Sum.inr.inj z)
    simp [e, this]
theorem merge_aux : ∀ (kvs acc : List (Key × V)), ((acc ++ kvs).map (·.1)).Nodup → mergeK acc kvs = acc ++ kvs
  | [], acc, _ => by simp [mergeK]
  | kv :: kvs, acc, h => by
    have hn : valV acc kv.1 = none := by
      cases q : valV acc kv.1 with
      | none => rfl
      | some v =>
        have := valV_in q
        rw [List.map_append, List.nodup_append] at h
        exact absurd rfl (h.2.2 kv.1 this kv.1 (by simp))
    have e : mergeK acc (kv :: kvs) = mergeK (putK acc kv.1 kv.2) kvs := rfl
    rw [e, putK_new _ hn, merge_aux kvs (acc ++ [(kv.1, kv.2)]) (by simpa using h)]
    simp
theorem merge_tab {ks : List Str} {f : Str → V} (h : ks.Nodup) : mergeK [] (tab ks f) = tab ks f := by
  have := merge_aux (tab ks f) [] (by
    simp only [List.nil_append, tab, List.map_map]
    exact List.pairwise_map.mpr (h.imp fun {a b} hab e => hab (Sum.inr.inj e)))
  simpa using this
/-- the moves at m: a dict of dicts of pairs, as it may be read (some of it locked) -/
def MvAt (H : Hp) (m : Addr) (M : Mch) : Prop := ∃ (r : Str → Addr) (t : Str → Str → Addr), Rd H m (.dK (tab M.S fun s => .ref (r s))) ∧
  ∀ s ∈ M.S, Rd H (r s) (.dK (tab M.L fun a => .ref (t s a))) ∧ ∀ a ∈ M.L, H (t s a) = some (.tup [.str (M.g s a), .str (M.d s a)])
/-- .. nothing locked -/
structure Mv0 (H : Hp) (m : Addr) (M : Mch) (r : Str → Addr) (t : Str → Str → Addr) : Prop where
  top : H m = some (.dK (tab M.S fun s => .ref (r s)))
  row : ∀ s ∈ M.S, H (r s) = some (.dK (tab M.L fun a => .ref (t s a)))
  cel : ∀ s ∈ M.S, ∀ a ∈ M.L, H (t s a) = some (.tup [.str (M.g s a), .str (M.d s a)])
theorem Mv0.at {H : Hp} {m : Addr} {M : Mch} {r : Str → Addr} {t : Str → Str → Addr} (h : Mv0 H m M r t) : MvAt H m M :=
  ⟨r, t, .inl h.top, fun s hs => ⟨.inl (h.row s hs), h.cel s hs⟩⟩
theorem Rd.same {H H' : Hp} {a : Addr} {u : HO} (r : Rd H a u) (s : Same H H') : Rd H' a u := r.elim (fun h => .inl (s _ _ h)) fun ⟨o, h⟩ => .inr ⟨o, s _ _ h⟩
theorem MvAt.same {H H' : Hp} {m : Addr} {M : Mch} (h : MvAt H m M) (s : Same H H') : MvAt H' m M := by
  obtain ⟨r, t, h1, h2⟩ := h
  exact ⟨r, t, Rd.same h1 s, fun x hx => ⟨Rd.same (h2 x hx).1 s, fun a ha => s _ _ ((h2 x hx).2 a ha)⟩⟩
theorem Mv0.same {H H' : Hp} {m : Addr} {M : Mch} {r : Str → Addr} {t : Str → Str → Addr} (h : Mv0 H m M r t) (s : Same H H') : Mv0 H' m M r t :=
  ⟨s _ _ h.top, fun x hx => s _ _ (h.row x hx), fun x hx a ha => s _ _ (h.cel x hx a ha)⟩
theorem Mv0.ne {H : Hp} {m : Addr} {M : Mch} {r : Str → Addr} {t : Str → Str → Addr} (h : Mv0 H m M r t) (ok : M.Ok) : (∀ s ∈ M.S, r s ≠ m) ∧ ∀ s ∈ M.S, ∀ a ∈ M.L, t s a ≠ m := by
  refine ⟨fun s hs e => ?_, fun s hs a ha e => ?_⟩
  · have h1 := h.top
    have h2 := h.row s hs
    rw [e, h1] at h2
    obtain ⟨s0, S', eS⟩ := List.exists_cons_of_ne_nil ok.s0
    obtain ⟨a0, L', eL⟩ := List.exists_cons_of_ne_nil ok.l0
    have h3 : tab M.S (fun s => V.ref (r s)) = tab M.L (fun a => V.ref (t s a)) := by
      have := Option.some.inj h2
      exact HO.dK.inj this
    rw [eS, eL] at h3
    have h4 : V.ref (r s0) = V.ref (t s a0) := by
      have := List.cons.inj h3
      exact (Prod.mk.inj this.1).2
    have h5 := h.row s0 (by rw [eS]; simp)
    have h6 := h.cel s hs a0 (by rw [eL]; simp)
    rw [V.ref.inj h4, h6] at h5
    cases h5
  · have h1 := h.top
    have h2 := h.cel s hs a ha
    rw [e, h1] at h2
    cases h2
/-- locked as it is, the moves may be read -/
theorem Mv0.lock {H : Hp} {m : Addr} {M : Mch} {r : Str → Addr} {t : Str → Str → Addr} (h : Mv0 H m M r t) (ok : M.Ok) (o : Obj) : MvAt (upd H m (.frz o (.dK (tab M.S fun s => .ref (r s))))) m M := by
  have n := h.ne ok
  refine ⟨r, t, .inr ⟨o, upd_same⟩, fun s hs => ⟨.inl ?_, fun a ha => ?_⟩⟩
  · rw [upd_ne (n.1 s hs)]; exact h.row s hs
  · rw [upd_ne (n.2 s hs a ha)]; exact h.cel s hs a ha
section
variable {P : Program} {w : World} {K : PySem.W.Frag} {mg : Str → Option Value} {base : Heap}
/-! ## the letters of moves -/
def spLets : Sp := fun vs H Q _ => ∃ (m : Addr) (M : Mch), vs = [.ref m] ∧ MvAt H m M ∧ M.Ok ∧ ∀ (l : Addr) (H' : Hp), H l = none → H' l = some (.lst (M.L.map V.str)) → Same H H' → Q (.ref l) H'
abbrev sc_law_b_letters_st : Stmt := top 49
abbrev sc_law_b_letters_N : List Str := ["_law_moves"]
theorem sc_law_b_letters : FnScope sc_law_b_letters_N ["_law_moves"] (C8.fnScope sc_law_b_letters_st) := C8.fnScope_by (by decide +kernel)
theorem c_law_b_letters (T : Txt K mg) (D : Dfn K mg "_law_b_letters" sc_law_b_letters_st ["_law_moves"]) : Call1 P w K mg base 1 "_law_b_letters" spLets := by
  refine D.cal sc_law_b_letters (fun vs H Q E h => ?_) (fun f cdv A outer s H vs Q E hr h => ?_)
  · obtain ⟨m, M, rfl, _⟩ := h
    rfl
  · obtain ⟨m, M, rfl, ⟨r, t, h1, h2⟩, ok, k⟩ := h
    have hu := hu_of hr
    refine ⟨_, (pss_one (ps_ret (pe_callTy (call_listD rfl) (by rfl) T.n_list (by decide +kernel) (pa_cons (pe_dget hu (pv 0) (pe_ix (ix_listK K) (pe_callTy (call_listD rfl) (by rfl) T.n_list (by decide +kernel) (pa_cons (pv 0) pa_nil)) pe_int (fun _ _ => rfl)) (fun _ _ => rfl)) pa_nil)))), ?_⟩
    obtain ⟨s0, S', eS⟩ := List.exists_cons_of_ne_nil ok.s0
    have hs0 : s0 ∈ M.S := by rw [eS]; simp
    refine ⟨_, rfl, _, rfl, m, _, rfl, h1, fun l1 hl1 => ?_⟩
    rw [tab_keys]
    have s1 := same_upd (o := .lst (M.S.map V.str)) hl1
    refine ⟨l1, M.S.map V.str, 0, V.str s0, rfl, rfl, SqL.of upd_same, at_ofA (j := 0) rfl (by rw [eS]; rfl), m, _, rfl, .inl ⟨_, Sum.inr s0, Rd.same h1 s1, rfl, (tab_in hs0).symm⟩, r s0, _, rfl, Rd.same (h2 s0 hs0).1 s1, fun l2 hl2 => ?_⟩
    rw [tab_keys]
    exact k l2 _ (Same.free s1 hl2) upd_same (same_upd2 s1 (Same.free s1 hl2))
end
end K45
end
section
set_option maxRecDepth 100000
set_option maxHeartbeats 4000000
namespace K45
open PySem PySem.Spec L2
section
variable {P : Program} {w : World} {K : PySem.W.Frag} {mg : Str → Option Value} {base : Heap}
def spBNames : Sp := fun vs H Q _ => ∃ (p q : Addr) (c n : Nat) (x : Str) (ch : Nat), vs = [.ref p, .str x, .int (n : Nat)] ∧ x.cps.toList = [ch] ∧ ch ∈ sgns ∧ Str8 p q c H ∧ c + 100 ≤ 1000000 ∧ n ≤ 8 ∧
  ∀ (ns : List Str) (r : Addr) (c' : Nat) (H' : Hp), ns.length = n → ns.Nodup → Nms ns → H r = none → H' r = some (.lst (ns.map V.str)) → c' ≤ c + 100 → Str8 p q c' H' → SB p q H H' → Q (.ref r) H'
theorem num_tl {k : Nat} (h : k < 10) : (Str.ofString (toString ((k : Nat) : Int))).cps.toList = [48 + k] := (TL.tl_num k).trans (TL.numL_lt h)
/-- the numbered names -/
def nth (x : Str) (k : Nat) : Str := x ++ Str.ofString (toString ((k : Nat) : Int))
theorem nth_tl {x : Str} {k : Nat} (h : k < 10) : (nth x k).cps.toList = x.cps.toList ++ [48 + k] := by
  have e := TL.tl_append x (Str.ofString (toString ((k : Nat) : Int)))
  rw [show TL.tl (Str.ofString (toString ((k : Nat) : Int))) = [48 + k] from num_tl h] at e
  exact e
theorem nth_inj {x : Str} {i k : Nat} (hi : i < 10) (hk : k < 10) (e : nth x i = nth x k) : i = k := by
  have h := congrArg (fun z : Str => z.cps.toList) e
  simp only [nth_tl hi, nth_tl hk] at h
  have := List.append_cancel_left h
  simp at this
  exact this
def nths (x : Str) (n : Nat) : List Str := (List.range n).map (nth x)
theorem nths_nodup {x : Str} {n : Nat} (h : n ≤ 10) : (nths x n).Nodup := by
  unfold nths
  refine List.pairwise_map.mpr (List.Pairwise.imp_of_mem (fun {a b} ha hb hab e => hab (nth_inj ?_ ?_ e)) List.nodup_range)
  · have := List.mem_range.mp ha; omega
  · have := List.mem_range.mp hb; omega
theorem nth_nm {x : Str} {ch k : Nat} (hx : x.cps.toList = [ch]) (hc : ch ∈ sgns) (hk : k < 10) : Nm (nth x k) := by
  have e := nth_tl (x := x) hk
  rw [hx] at e
  refine nm_of e (by simp) (by simp) fun c hc' => ?_
  simp only [List.singleton_append, List.mem_cons, List.not_mem_nil, or_false] at hc'
  rcases hc' with rfl | rfl
  · exact hc
  · unfold sgns
    simp only [List.mem_cons, List.not_mem_nil, or_false]
    omega
theorem nth_len {x : Str} {ch k : Nat} (hx : x.cps.toList = [ch]) (hk : k < 10) : (nth x k).length = 2 := by
  rw [len_tl, nth_tl hk, hx]; rfl
abbrev sc_law_b_names_st : Stmt := top 47
abbrev sc_law_b_names_N : List Str := ["_law_stream", "_law_first", "_law_many", "_law_k"]
theorem sc_law_b_names : FnScope sc_law_b_names_N ["_law_stream", "_law_first", "_law_many"] (C8.fnScope sc_law_b_names_st) := C8.fnScope_by (by decide +kernel)
theorem c_law_b_names (T : Txt K mg) (D : Dfn K mg "_law_b_names" sc_law_b_names_st ["_law_stream", "_law_first", "_law_many"]) (c_law_draw : Call1 P w K mg base 1 "_law_draw" spDraw) (c_law_mixed : Call1 P w K mg base 2 "_law_mixed" (spMixed K)) (c_law_names : Call1 P w K mg base 4 "_law_names" spNames) : Call1 P w K mg base 5 "_law_b_names" spBNames := by
  refine D.cal sc_law_b_names (fun vs H Q E h => ?_) (fun f cdv A outer s H vs Q E hr h => ?_)
  · obtain ⟨p, q, c, n, x, ch, rfl, _⟩ := h
    rfl
  · obtain ⟨p, q, c, n, x, ch, rfl, hx, hch, S, hc, hn, k⟩ := h
    refine ⟨_, (pss_cons (ps_if (pt_cmpR op_gt (C8.pe_c c_law_draw hr (by decide) (by rfl) (pa_cons (pv 0) (pa_cons pe_int pa_nil))) pe_int (nomark _)) (pss_one (ps_ret (C8.pe_c c_law_mixed hr (by decide) (by rfl) (pa_cons (pv 0) (pa_cons (pe_lc (own := [("_law_k", 3)]) (g := (gName 3)) (tt := tYes) rfl sc_law_b_names.nd (pi_range1 (by rfl) T.n_range (pa_cons (pv 2) pa_nil)) (blkOk_by (N := sc_law_b_names_N) (sc := C8.fnScope sc_law_b_names_st) (by decide +kernel)) (fun _ _ _ _ _ => (pg_name (i := 3) sc_law_b_names.nd rfl (by first | exact Or.inl rfl | exact Or.inr rfl))) (fun _ _ _ _ _ => pts_nil) (fun _ _ _ _ _ => (pe_op op_add_str (pv 1) (pe_callTy call_str_int (by rfl) T.n_str (by decide +kernel) (pa_cons (pv 3) pa_nil))))) pa_nil)))))
     pss_nil)
    (pss_one (ps_ret (C8.pe_c c_law_names hr (by decide) (by rfl) (pa_cons (pv 0) (pa_cons (pv 2) pa_nil)))))), ?_⟩
    refine ⟨_, rfl, p, q, c, _, rfl, S, by omega, by decide, by decide, fun i H1 i0 i1 S1 sb1 => ⟨_, _, rfl, rfl, _, rfl, ?_⟩⟩
    refine ite2 (fun _ => ?_) fun _ => ?_
    · refine ⟨_, rfl, _, rfl, _, rfl, by omega, by omega, fun Dn hD => ?_⟩
      have hD0 : H Dn = none := sb1.free S1 hD
      refine lc_range (lo := 0) (n := n) (fun j H2 => H2 Dn = some (.lst ((nths x j).map V.str)) ∧ Same H1 H2) ⟨upd_same, same_upd hD⟩ ?_ ?_
      · rintro j H2 hj ⟨g2, sm⟩
        refine ⟨rfl, _, rfl, _, rfl, _, rfl, ?_, x, _, rfl, rfl, ?_, _, g2, ?_, ?_, ?_⟩
        · have e : ((0 : Int) + (j : Nat)).natAbs = j := by omega
          rw [e]
          exact Nat.lt_of_le_of_lt (Nat.log2_le_self j) (by omega)
        · have e : (0 : Int) + (j : Nat) = (j : Nat) := by omega
          rw [e]
          have e1 : x.length = 1 := by rw [len_tl, hx]; rfl
          have e2 : (Str.ofString (toString ((j : Nat) : Int))).length = 1 := by rw [len_tl, num_tl (by omega)]; rfl
          rw [e1, e2]
          exact sz_le (by decide)
        · exact small1000 (by rw [List.length_map]; simp [nths]; omega)
        · have e : (0 : Int) + (j : Nat) = (j : Nat) := by omega
          rw [upd_same, e]
          unfold nths
          rw [List.range_succ, List.map_append, List.map_append]
          rfl
        · exact fun b o eb => by rw [upd_ne (ne_of_none eb hD)]; exact sm b o eb
      · rintro H2 ⟨g2, sm⟩
        have nD := S1.nnew hD
        refine ⟨p, q, Dn, c + 1, _, rfl, S1.same sm, by simp [nths]; omega, SqL.of g2, nD.1, nD.2, by simp [nths]; omega, fun ys r H3 pm hr0 g3 S3 sb3 => ?_⟩
        obtain ⟨zs, pz, rfl⟩ := perm_map (g := vStr) (fun _ => rfl) pm
        refine k zs r _ H3 (by rw [pz.length_eq]; simp [nths]) (pz.nodup_iff.mpr (nths_nodup (by omega))) (fun z hz => ?_) ?_ g3 ?_ S3 ((sb1.trans (sb_of sm)).trans sb3)
        · have := pz.mem_iff.mp hz
          obtain ⟨j, hj, rfl⟩ := List.mem_map.mp this
          have := List.mem_range.mp hj
          exact nth_nm hx hch (by omega)
        · exact sb1.free S1 (Same.free sm hr0)
        · simp [nths]; omega
    · refine ⟨_, rfl, _, rfl, p, q, c + 1, n, rfl, S1, by omega, hn, fun ns r c' H2 hl nd nm hr0 g2 hc' S2 sb2 => ?_⟩
      exact k ns r c' H2 hl nd nm (sb1.free S1 hr0) g2 (by omega) S2 (sb1.trans sb2)
end
end K45
end
section
set_option maxRecDepth 100000
set_option maxHeartbeats 4000000
namespace K45
open PySem PySem.Spec L2
theorem paired_right {α β γ : Type} {F : α → β → Prop} {G : α → γ → Prop} {h : β → γ} (k : ∀ a x, F a x → G a (h x)) : ∀ {as : List α} {xs : List β}, Paired F as xs → Paired G as (xs.map h)
  | _, _, .nil => .nil
  | _, _, .cons r t => .cons (k _ _ r) (paired_right k t)
theorem paired_snoc {α β : Type} {F : α → β → Prop} {a : α} {x : β} (r : F a x) : ∀ {as : List α} {xs : List β}, Paired F as xs → Paired F (as ++ [a]) (xs ++ [x])
  | _, _, .nil => .cons r .nil
  | _, _, .cons q t => .cons q (paired_snoc r t)
theorem paired_imp {α β : Type} {F G : α → β → Prop} : ∀ {as : List α} {xs : List β}, (∀ a x, x ∈ xs → F a x → G a x) → Paired F as xs → Paired G as xs
  | _, _, _, .nil => .nil
  | _, _, k, .cons q t => .cons (k _ _ (by simp) q) (paired_imp (fun a x hx => k a x (by simp [hx])) t)
theorem paired_len {α β : Type} {F : α → β → Prop} : ∀ {as : List α} {xs : List β}, Paired F as xs → as.length = xs.length
  | _, _, .nil => rfl
  | _, _, .cons _ t => by simp [paired_len t]
theorem take_snoc {α : Type} {l : List α} {j : Nat} {x : α} (h : l[j]? = some x) : l.take (j + 1) = l.take j ++ [x] := by rw [List.take_add_one, h]; rfl
theorem nodup_take {α : Type} {l : List α} {j : Nat} {x : α} (hn : l.Nodup) (h : l[j]? = some x) : x ∉ l.take j := by
  intro hx
  obtain ⟨i, hi, e⟩ := List.getElem_of_mem hx
  rw [List.length_take] at hi
  rw [List.getElem_take] at e
  obtain ⟨hj, e2⟩ := List.getElem?_eq_some_iff.mp h
  have := (List.getElem_inj (h₀ := by omega) (h₁ := hj) hn).mp (e.trans e2.symm)
  omega
/-- moves as they grow: of each state the letters Ls -/
structure Gr (H : Hp) (fo : Addr) (S : List Str) (Ls : Str → List Str) (r : Str → Addr) (t : Str → Str → Addr) (g d : Str → Str → Str) : Prop where
  top : H fo = some (.dK (tab S fun s => .ref (r s)))
  row : ∀ s ∈ S, H (r s) = some (.dK (tab (Ls s) fun a => .ref (t s a)))
  cel : ∀ s ∈ S, ∀ a ∈ Ls s, H (t s a) = some (.tup [.str (g s a), .str (d s a)])
  nm : ∀ s ∈ S, ∀ a ∈ Ls s, Nm (g s a) ∧ d s a ∈ S
  inj : ∀ s ∈ S, ∀ s' ∈ S, r s = r s' → s = s'
section
variable {H H' : Hp} {fo : Addr} {S : List Str} {Ls : Str → List Str} {r : Str → Addr} {t : Str → Str → Addr} {g d : Str → Str → Str}
theorem Gr.same (G : Gr H fo S Ls r t g d) (s : Same H H') : Gr H' fo S Ls r t g d :=
  ⟨s _ _ G.top, fun x hx => s _ _ (G.row x hx), fun x hx a ha => s _ _ (G.cel x hx a ha), G.nm, G.inj⟩
theorem Str8.nd {p q : Addr} {c : Nat} (S8 : Str8 p q c H) {a : Addr} {o : HO} (h : H a = some o) (no : ∀ xs, o ≠ .lst xs) : a ≠ p ∧ a ≠ q := by
  obtain ⟨cells, b, e, h1, h2, _⟩ := S8.ex
  refine ⟨fun z => ?_, fun z => ?_⟩
  · rw [z, h1] at h
    exact no _ (Option.some.inj h).symm
  · rw [z, h2] at h
    exact no _ (Option.some.inj h).symm
theorem Gr.sb (G : Gr H fo S Ls r t g d) {p q : Addr} {c : Nat} (S8 : Str8 p q c H) (s : SB p q H H') : Gr H' fo S Ls r t g d := by
  have k : ∀ a o, H a = some o → (∀ xs, o ≠ .lst xs) → H' a = some o := fun a o h no => s a o h (S8.nd h no).1 (S8.nd h no).2
  exact ⟨k _ _ G.top (by intro xs z; cases z), fun x hx => k _ _ (G.row x hx) (by intro xs z; cases z), fun x hx a ha => k _ _ (G.cel x hx a ha) (by intro xs z; cases z), G.nm, G.inj⟩
theorem Gr.ne (G : Gr H fo S Ls r t g d) : ∀ s ∈ S, r s ≠ fo := by
  intro s hs e
  have h1 := G.top
  have h2 := G.row s hs
  rw [e, h1] at h2
  have h3 : tab S (fun s => V.ref (r s)) = tab (Ls s) (fun a => V.ref (t s a)) := HO.dK.inj (Option.some.inj h2)
  cases eS : S with
  | nil => rw [eS] at hs; simp at hs
  | cons s0 S' =>
    cases eL : Ls s with
    | nil => rw [eS, eL] at h3; simp [tab] at h3
    | cons a0 L' =>
      rw [eS, eL] at h3
      have h4 := (Prod.mk.inj (List.cons.inj h3).1).2
      have h5 := G.row s0 (by rw [eS]; simp)
      have h6 := G.cel s hs a0 (by rw [eL]; simp)
      rw [V.ref.inj h4, h6] at h5
      cases h5
theorem Gr.congr {Ls' : Str → List Str} (G : Gr H fo S Ls r t g d) (e : ∀ s ∈ S, Ls s = Ls' s) : Gr H fo S Ls' r t g d :=
  ⟨G.top, fun s hs => by rw [← e s hs]; exact G.row s hs, fun s hs a ha => G.cel s hs a (by rw [e s hs]; exact ha), fun s hs a ha => G.nm s hs a (by rw [e s hs]; exact ha), G.inj⟩
/-- found[s][a] = (x, y) -/
theorem Gr.put (G : Gr H fo S Ls r t g d) {s a x y : Str} {tn : Addr} (hs : s ∈ S) (ha : a ∉ Ls s) (ht : H tn = some (.tup [.str x, .str y])) (hx : Nm x) (hy : y ∈ S) :
    Gr (upd H (r s) (.dK (putK (tab (Ls s) fun b => .ref (t s b)) (Sum.inr a : Key) (.ref tn)))) fo S (fun z => if z = s then Ls s ++ [a] else Ls z) r
      (fun z b => if z = s ∧ b = a then tn else t z b) (fun z b => if z = s ∧ b = a then x else g z b) (fun z b => if z = s ∧ b = a then y else d z b) := by
  have old : ∀ z ∈ S, ∀ b ∈ Ls z, ¬ (z = s ∧ b = a) := fun z _ b hb q => by
    obtain ⟨rfl, rfl⟩ := q
    exact ha hb
  have mem : ∀ z ∈ S, ∀ b, b ∈ (if z = s then Ls s ++ [a] else Ls z) → b ∈ Ls z ∨ (z = s ∧ b = a) := fun z _ b hb => by
    by_cases e : z = s
    · subst e
      rw [if_pos rfl] at hb
      rcases List.mem_append.mp hb with h | h
      · exact .inl h
      · exact .inr ⟨rfl, List.mem_singleton.mp h⟩
    · rw [if_neg e] at hb
      exact .inl hb
  have hr := G.row s hs
  have nt : ∀ z b o, H (t z b) = some (.tup o) → t z b ≠ r s := fun z b o h e => by
    rw [e, hr] at h; cases h
  refine ⟨by rw [upd_ne (G.ne s hs).symm]; exact G.top, fun z hz => ?_, fun z hz b hb => ?_, fun z hz b hb => ?_, G.inj⟩
  · by_cases e : z = s
    · subst e
      rw [if_pos rfl, upd_same, tab_new ha]
      refine congrArg (fun l => some (HO.dK l)) (tab_congr fun b hb => ?_)
      by_cases eb : b = a <;> simp [eb]
    · rw [if_neg e, upd_ne (fun h => e (G.inj z hz s hs h)), G.row z hz]
      refine congrArg (fun l => some (HO.dK l)) (tab_congr fun b hb => ?_)
      simp [e]
  · rcases mem z hz b hb with h | ⟨rfl, rfl⟩
    · have o := old z hz b h
      simp only [o, if_false]
      rw [upd_ne (nt z b _ (G.cel z hz b h))]
      exact G.cel z hz b h
    · simp only [and_self, if_true]
      rw [upd_ne (fun e => by rw [e, hr] at ht; cases ht)]
      exact ht
  · rcases mem z hz b hb with h | ⟨rfl, rfl⟩
    · have o := old z hz b h
      simp only [o, if_false]
      exact G.nm z hz b h
    · simp only [and_self, if_true]
      exact ⟨hx, hy⟩
/-- found[s] = a copy of the row of s1 -/
theorem Gr.dup (G : Gr H fo S Ls r t g d) {s s1 : Str} {rn : Addr} (hs : s ∈ S) (hs1 : s1 ∈ S) (hn : H rn = none) :
    Gr (upd (upd H rn (.dK (tab (Ls s1) fun b => .ref (t s1 b)))) fo (.dK (putK (tab S fun s => .ref (r s)) (Sum.inr s : Key) (.ref rn)))) fo S (fun z => if z = s then Ls s1 else Ls z) (fun z => if z = s then rn else r z)
      (fun z b => if z = s then t s1 b else t z b) (fun z b => if z = s then g s1 b else g z b) (fun z b => if z = s then d s1 b else d z b) := by
  have k : ∀ a o, H a = some o → a ≠ fo → (upd (upd H rn (.dK (tab (Ls s1) fun b => .ref (t s1 b)))) fo (.dK (putK (tab S fun s => .ref (r s)) (Sum.inr s : Key) (.ref rn)))) a = some o := fun a o h n => by
    rw [upd_ne n, upd_ne (ne_of_none h hn)]; exact h
  have nfo : rn ≠ fo := (ne_of_none G.top hn).symm
  refine ⟨?_, fun z hz => ?_, fun z hz b hb => ?_, fun z hz b hb => ?_, fun z hz z' hz' e => ?_⟩
  · rw [upd_same, tab_old hs]
    refine congrArg (fun l => some (HO.dK l)) (tab_congr fun b hb => ?_)
    by_cases eb : b = s <;> simp [eb]
  · by_cases e : z = s
    · subst e
      simp only [if_true]
      rw [upd_ne nfo, upd_same]
    · simp only [e, if_false]
      exact k _ _ (G.row z hz) (G.ne z hz)
  · have nt : ∀ x b o, H (t x b) = some (.tup o) → t x b ≠ fo := fun x b o h e => by rw [e, G.top] at h; cases h
    by_cases e : z = s
    · subst e
      simp only [if_true] at hb ⊢
      exact k _ _ (G.cel s1 hs1 b hb) (nt _ _ _ (G.cel s1 hs1 b hb))
    · simp only [e, if_false] at hb ⊢
      exact k _ _ (G.cel z hz b hb) (nt _ _ _ (G.cel z hz b hb))
  · by_cases e : z = s
    · subst e
      simp only [if_true] at hb ⊢
      exact G.nm s1 hs1 b hb
    · simp only [e, if_false] at hb ⊢
      exact G.nm z hz b hb
  · by_cases e1 : z = s
    · by_cases e2 : z' = s
      · rw [e1, e2]
      · simp only [e1, e2, if_true, if_false] at e
        have := G.row z' hz'
        rw [← e, hn] at this; cases this
    · by_cases e2 : z' = s
      · simp only [e1, e2, if_true, if_false] at e
        have := G.row z hz
        rw [e, hn] at this; cases this
      · simp only [e1, e2, if_false] at e
        exact G.inj z hz z' hz' e
end
end K45
end
section
set_option maxRecDepth 100000
set_option maxHeartbeats 4000000
namespace K45
open PySem PySem.Spec L2
section
variable {P : Program} {w : World} {K : PySem.W.Frag} {mg : Str → Option Value} {base : Heap}
def spBMoves : Sp := fun vs H Q _ => ∃ (p q : Addr) (c n m : Nat), vs = [.ref p, .int (n : Nat), .int (m : Nat)] ∧ Str8 p q c H ∧ c + 500 ≤ 1000000 ∧ 0 < n ∧ n ≤ 7 ∧ 0 < m ∧ m ≤ 7 ∧
  ∀ (mv : Addr) (M : Mch) (r : Str → Addr) (t : Str → Str → Addr) (c' : Nat) (H' : Hp), H mv = none → Mv0 H' mv M r t → M.Ok → c' ≤ c + 500 → Str8 p q c' H' → SB p q H H' → Q (.ref mv) H'
def sgs0 : List Str := ["o", "x", "o", "on", "x9"]
theorem sgs_nm : ∀ x ∈ sgs0, Nm x := by
  intro x hx
  unfold sgs0 at hx
  simp only [List.mem_cons, List.not_mem_nil, or_false] at hx
  rcases hx with rfl | rfl | rfl | rfl | rfl <;> (show NmB _ = true; decide +kernel)
abbrev sc_law_b_moves_st : Stmt := top 48
abbrev sc_law_b_moves_N : List Str := ["_law_stream", "_law_most", "_law_wide", "_law_states", "_law_letters", "_law_luck", "_law_signs", "_law_found", "_law_letter", "_law_goals", "_law_at", "_law_state", "_law_goal"]
theorem sc_law_b_moves : FnScope sc_law_b_moves_N ["_law_stream", "_law_most", "_law_wide"] (C8.fnScope sc_law_b_moves_st) := C8.fnScope_by (by decide +kernel)
theorem c_law_b_moves (T : Txt K mg) (D : Dfn K mg "_law_b_moves" sc_law_b_moves_st ["_law_stream", "_law_most", "_law_wide"]) (c_law_draw : Call1 P w K mg base 1 "_law_draw" spDraw) (c_law_pick : Call1 P w K mg base 2 "_law_pick" (spPick K)) (c_law_mixed : Call1 P w K mg base 2 "_law_mixed" (spMixed K)) (c_law_b_names : Call1 P w K mg base 5 "_law_b_names" spBNames) : Call1 P w K mg base 6 "_law_b_moves" spBMoves := by
  refine D.cal sc_law_b_moves (fun vs H Q E h => ?_) (fun f cdv A outer s H vs Q E hr h => ?_)
  · obtain ⟨p, q, c, n, m, rfl, _⟩ := h
    rfl
  · obtain ⟨p, q, c, n, m, rfl, S8, hc, n0, n7, m0, m7, k⟩ := h
    have hu := hu_of hr
    refine ⟨_, (pss_cons (ps_set (i := 3) sc_law_b_moves.nd rfl (by first | exact Or.inl rfl | exact Or.inr rfl) (C8.pe_c c_law_b_names hr (by decide) (by rfl) (pa_cons (pv 0) (pa_cons pe_str (pa_cons (pe_op op_add pe_int (C8.pe_c c_law_draw hr (by decide) (by rfl) (pa_cons (pv 0) (pa_cons (pv 1) pa_nil)))) pa_nil)))))
    (pss_cons (ps_par (i := 4) (j := 5) (by rfl) sc_law_b_moves.nd rfl rfl (by decide) rfl rfl (pa_cons (C8.pe_c c_law_b_names hr (by decide) (by rfl) (pa_cons (pv 0) (pa_cons pe_str (pa_cons (pe_op op_add pe_int (C8.pe_c c_law_draw hr (by decide) (by rfl) (pa_cons (pv 0) (pa_cons (pv 2) pa_nil)))) pa_nil)))) (pa_cons (C8.pe_c c_law_draw hr (by decide) (by rfl) (pa_cons (pv 0) (pa_cons pe_int pa_nil))) pa_nil)) (by rfl))
    (C8.pss_cut (ps_set (i := 6) sc_law_b_moves.nd rfl (by first | exact Or.inl rfl | exact Or.inr rfl) (pe_ifExp (pt_cmpR op_ne (pv 5) pe_int (nomark _)) (pe_slice (slListK K) (pe_lst (pa_cons pe_str (pa_cons pe_str (pa_cons pe_str (pa_cons pe_str (pa_cons pe_str pa_nil)))))) po_none (po_some (pe_op op_add pe_int (C8.pe_c c_law_draw hr (by decide) (by rfl) (pa_cons (pv 0) (pa_cons pe_int pa_nil)))))) (pe_lst (pa_cons pe_str pa_nil))))
    (pss_cons (ps_set (i := 7) sc_law_b_moves.nd rfl (by first | exact Or.inl rfl | exact Or.inr rfl) (pe_callTy (call_dictP rfl) (by rfl) T.n_dict (by decide +kernel) (pa_cons (pe_lc (own := [("_law_state", 11)]) (g := (gName 11)) (tt := tYes) rfl sc_law_b_moves.nd (listI K (pv 3)) (blkOk_by (N := sc_law_b_moves_N) (sc := C8.fnScope sc_law_b_moves_st) (by decide +kernel)) (fun _ _ _ _ _ => (pg_name (i := 11) sc_law_b_moves.nd rfl (by first | exact Or.inl rfl | exact Or.inr rfl))) (fun _ _ _ _ _ => pts_nil) (fun _ _ _ _ _ => (pe_tup (pa_cons (pv 11) (pa_cons pe_dnewK pa_nil))))) pa_nil)))
    (pss_cons (ps_for PassesOwn.never rfl (listI K (pv 4)) (pg_name (i := 8) sc_law_b_moves.nd rfl (by first | exact Or.inl rfl | exact Or.inr rfl))
     (pss_cons (ps_set (i := 9) sc_law_b_moves.nd rfl (by first | exact Or.inl rfl | exact Or.inr rfl) (C8.pe_c c_law_mixed hr (by decide) (by rfl) (pa_cons (pv 0) (pa_cons (pv 3) pa_nil))))
      (pss_one (ps_for PassesOwn.never rfl (enumI K (by rfl) T.n_enumerate (pa_cons (pv 3) pa_nil)) (tupG K rfl (pgs_cons (pg_name (i := 10) sc_law_b_moves.nd rfl (by first | exact Or.inl rfl | exact Or.inr rfl)) (pgs_cons (pg_name (i := 11) sc_law_b_moves.nd rfl (by first | exact Or.inl rfl | exact Or.inr rfl)) pgs_nil)))
       (C8.pss_cut (ps_set (i := 12) sc_law_b_moves.nd rfl (by first | exact Or.inl rfl | exact Or.inr rfl) (pe_ifExp (pt_cmpR op_eq (pv 5) pe_int (nomark _)) (pe_ix (ix_listK K) (pv 9) (pv 10) (fun _ _ => rfl)) (C8.pe_c c_law_pick hr (by decide) (by rfl) (pa_cons (pv 0) (pa_cons (pv 3) pa_nil)))))
        (pss_one (ps_dput hu (pe_dget hu (pv 7) (pv 11) (fun _ _ => rfl)) (pv 8) (pe_tup (pa_cons (C8.pe_c c_law_pick hr (by decide) (by rfl) (pa_cons (pv 0) (pa_cons (pv 6) pa_nil))) (pa_cons (pv 12) pa_nil))) rfl)))))))
    (pss_cons (ps_if (PW.pt (pw_and (pt_cmpR op_eq (pv 5) pe_int (nomark _)) (pw_and1 (pt_cmpR op_gt (pe_callB (lenK K) (by rfl) T.n_len (by decide +kernel) (pa_cons (pv 3) pa_nil)) pe_int (nomark _))))) (pss_one (ps_dput hu (pv 7) (pe_ix (ix_listK K) (pv 3) (pe_un un_neg pe_int) (fun _ _ => rfl)) (pe_callTy call_dictD (by rfl) T.n_dict (by decide +kernel) (pa_cons (pe_dget hu (pv 7) (pe_ix (ix_listK K) (pv 3) pe_int (fun _ _ => rfl)) (fun _ _ => rfl)) pa_nil)) rfl))
     pss_nil)
    (pss_one (ps_ret (pv 7))))))))), ?_⟩
    -- the states
    refine ⟨_, rfl, _, rfl, _, rfl, p, q, c, _, rfl, S8, by omega, by omega, by omega, fun i H1 i0 i1 S81 sb1 => ?_⟩
    obtain ⟨i, rfl⟩ : ∃ n : Nat, i = n := ⟨i.toNat, by omega⟩
    refine ⟨_, _, rfl, rfl, p, q, c + 1, 1 + i, "s", 115, rfl, by decide +kernel, by decide, S81, by omega, by omega, fun S ls c2 H2 hSl hSn hSm hls gls hc2 S82 sb2 => ?_⟩
    -- the letters, luck
    refine ⟨_, rfl, _, rfl, _, rfl, p, q, c2, _, rfl, S82, by omega, by omega, by omega, fun i' H3 i0' i1' S83 sb3 => ?_⟩
    obtain ⟨i', rfl⟩ : ∃ n : Nat, i' = n := ⟨i'.toNat, by omega⟩
    refine ⟨_, _, rfl, rfl, p, q, c2 + 1, 1 + i', "a", 97, rfl, by decide +kernel, by decide, S83, by omega, by omega, fun L ll c4 H4 hLl hLn hLm hll gll hc4 S84 sb4 => ?_⟩
    refine ⟨_, rfl, p, q, c4, _, rfl, S84, by omega, by decide, by decide, fun lk H5 l0 l1 S85 sb5 => ?_⟩
    refine ⟨_, _, rfl, ?_⟩
    have sbB : SB p q H H5 := (((sb1.trans sb2).trans sb3).trans sb4).trans sb5
    have hls0 : H ls = none := sb1.free S81 hls
    have hll0 : H ll = none := ((sb1.trans sb2).trans sb3).free S83 hll
    have nls := S81.nnew hls
    have nll := S83.nnew hll
    have gls5 : H5 ls = some (.lst (S.map V.str)) := sb5 _ _ (sb4 _ _ (sb3 _ _ gls nls.1 nls.2) nls.1 nls.2) nls.1 nls.2
    have gll5 : H5 ll = some (.lst (L.map V.str)) := sb5 _ _ gll nll.1 nll.2
    -- the signs
    refine ⟨fun σ' H' => ∃ (sg : Addr) (sgs : List Str) (c' : Nat), σ' = [some (.ref p), some (.int (n : Nat)), some (.int (m : Nat)), some (.ref ls), some (.ref ll), some (.int lk), some (.ref sg), none, none, none, none, none, none] ∧ H' sg = some (.lst (sgs.map V.str)) ∧ sgs ≠ [] ∧ sgs.length ≤ 5 ∧ Nms sgs ∧ sg ≠ p ∧ sg ≠ q ∧ c' ≤ c4 + 2 ∧ Str8 p q c' H' ∧ SB p q H5 H', ?_, ?_⟩
    · refine ⟨_, rfl, rfl, _, rfl, ?_⟩
      by_cases hk : V.int lk = V.int 1
      · rw [decide_eq_true hk]
        refine iteF ⟨sz_le (by simp), fun sg hsg => ?_⟩
        have ns := S85.nnew hsg
        exact ⟨sg, ["o"], c4 + 1, rfl, upd_same, by simp, by simp, fun x hx => sgs_nm x (by simp at hx; subst hx; simp [sgs0]), ns.1, ns.2, by omega, S85.new hsg, (SB.refl p q H5).new hsg⟩
      · rw [decide_eq_false hk]
        refine iteT ⟨sz_le (by simp), fun s1 hs1 => ?_⟩
        refine ⟨_, rfl, p, q, c4 + 1, _, rfl, S85.new hs1, by omega, by decide, by decide, fun j H6 j0 j1 S86 sb6 => ?_⟩
        obtain ⟨j, rfl⟩ : ∃ n : Nat, j = n := ⟨j.toNat, by omega⟩
        have n1 := S85.nnew hs1
        have g1 := sb6 _ _ upd_same n1.1 n1.2
        refine ⟨_, _, rfl, rfl, _, rfl, s1, sgs0.map V.str, rfl, SqL.of g1, fun sg hsg => ?_⟩
        have ns := S86.nnew hsg
        have e1 : cutV (sgs0.map V.str) none (some (1 + (j : Int))) = (sgs0.take (1 + j)).map V.str := by
          have e : (1 + (j : Int)) = ((1 + j : Nat) : Int) := by omega
          unfold cutV
          rw [e, HT.sIx_none, HT.sIx_nat, List.drop_zero, Nat.sub_zero, List.map_take]
          congr 1
          simp [sgs0]
          omega
        rw [e1]
        have sbC : SB p q H5 H6 := (sb_of (same_upd hs1)).trans sb6
        refine ⟨sg, sgs0.take (1 + j), c4 + 2, rfl, upd_same, ?_, ?_, fun x hx => sgs_nm x (List.mem_of_mem_take hx), ns.1, ns.2, by omega, S86.new hsg, sbC.new (sbC.free S86 hsg)⟩
        · intro z
          have := congrArg List.length z
          simp [sgs0] at this
        · rw [List.length_take]
          exact Nat.le_trans (Nat.min_le_right _ _) (by decide)
    · rintro σ' H6 ⟨sg, sgs, c6, rfl, gsg, sgs0', sgl, sgn, nsg1, nsg2, hc6, S86, sb6⟩
      have gls6 := sb6 _ _ gls5 nls.1 nls.2
      have gll6 := sb6 _ _ gll5 nll.1 nll.2
      have sb06 : SB p q H H6 := sbB.trans sb6
      have hS0 : S ≠ [] := fun e => by rw [e] at hSl; simp at hSl; omega
      have hL0 : L ≠ [] := fun e => by rw [e] at hLl; simp at hLl; omega
      -- the empty rows
      refine ⟨_, rfl, ls, rfl, ⟨_, SqL.of gls6⟩, fun Dn hD => ?_⟩
      refine lc_list (K := K) (a := ls) (xs := S.map V.str) (fun j H7 => ∃ (r : Str → Addr) (ts : List Addr), H7 Dn = some (.lst (ts.map V.ref)) ∧ Paired (fun t s => H7 t = some (.tup [.str s, .ref (r s)])) ts (S.take j) ∧ (∀ s ∈ S.take j, H7 (r s) = some (.dK [])) ∧
        (∀ s ∈ S.take j, ∀ s' ∈ S.take j, r s = r s' → s = s') ∧ (∀ s ∈ S.take j, H6 (r s) = none) ∧ Same H6 H7) ?_ (fun j H7 _ ⟨_, _, _, _, _, _, _, sm⟩ => sm.seq (SqL.of gls6)) ?_ ?_
      · exact ⟨fun _ => 0, [], upd_same, .nil, by simp, by simp, by simp, same_upd hD⟩
      · rintro j x H7 hj ⟨r, ts, g1, pd, rows, inj, fr, sm⟩
        rw [List.getElem?_map] at hj
        cases hx : S[j]? with
        | none => rw [hx] at hj; cases hj
        | some s0 =>
          rw [hx] at hj
          obtain rfl : V.str s0 = x := Option.some.inj hj
          have nin := nodup_take hSn hx
          refine ⟨rfl, _, rfl, fun rn hrn => ⟨sz_le (by simp), fun tn htn => ?_⟩⟩
          have hDn : H7 Dn = some (.lst (ts.map V.ref)) := g1
          have dD : Dn ≠ rn := ne_of_none g1 hrn
          have s7 := same_upd (o := .dK []) hrn
          have dT : Dn ≠ tn := ne_of_none (s7 _ _ g1) htn
          have s8 := same_upd (o := .tup [.str s0, .ref rn]) htn
          have s78 := s7.trans s8
          refine ⟨_, s78 _ _ g1, by rw [List.length_map, paired_len pd, List.length_take]; exact small1000 (Nat.le_trans (Nat.min_le_right _ _) (by omega)), fun z => if z = s0 then rn else r z, ts ++ [tn], ?_, ?_, ?_, ?_, ?_, ?_⟩
          · rw [upd_same, List.map_append]; rfl
          · rw [take_snoc hx]
            have kp : ∀ b o, H7 b = some o → b ≠ Dn → (upd (upd (upd H7 rn (.dK [])) tn (.tup [.str s0, .ref rn])) Dn (.lst (ts.map V.ref ++ [V.ref tn]))) b = some o := fun b o e n => by rw [upd_ne n]; exact s78 b o e
            refine paired_snoc (by
              simp only [if_true]
              rw [upd_ne dT.symm]; exact upd_same) (paired_imp (fun t' s hs ht => ?_) pd)
            have e : ¬ s = s0 := fun e => nin (e ▸ hs)
            simp only [e, if_false]
            exact kp _ _ ht (fun z => by rw [z, g1] at ht; cases ht)
          · intro s hs
            rw [take_snoc hx] at hs
            rcases List.mem_append.mp hs with h | h
            · have e : ¬ s = s0 := fun e => nin (e ▸ h)
              simp only [e, if_false]
              have h1 := rows s h
              rw [upd_ne (fun z => by rw [z, g1] at h1; cases h1)]
              exact s78 _ _ h1
            · obtain rfl := List.mem_singleton.mp h
              simp only [if_true]
              rw [upd_ne dD.symm]
              exact s8 _ _ upd_same
          · intro s hs s' hs' e
            rw [take_snoc hx] at hs hs'
            rcases List.mem_append.mp hs with h | h <;> rcases List.mem_append.mp hs' with h' | h'
            · have e1 : ¬ s = s0 := fun e => nin (e ▸ h)
              have e2 : ¬ s' = s0 := fun e => nin (e ▸ h')
              simp only [e1, e2, if_false] at e
              exact inj s h s' h' e
            · have e1 : ¬ s = s0 := fun e => nin (e ▸ h)
              simp only [e1, List.mem_singleton.mp h', if_true, if_false] at e
              have := rows s h
              rw [e, hrn] at this; cases this
            · have e1 : ¬ s' = s0 := fun e => nin (e ▸ h')
              simp only [e1, List.mem_singleton.mp h, if_true, if_false] at e
              have := rows s' h'
              rw [← e, hrn] at this; cases this
            · rw [List.mem_singleton.mp h, List.mem_singleton.mp h']
          · intro s hs
            rw [take_snoc hx] at hs
            rcases List.mem_append.mp hs with h | h
            · have e : ¬ s = s0 := fun e => nin (e ▸ h)
              simp only [e, if_false]
              exact fr s h
            · obtain rfl := List.mem_singleton.mp h
              simp only [if_true]
              exact Same.free sm hrn
          · exact fun b o eb => by rw [upd_ne (ne_of_none eb hD)]; exact s78 _ _ (sm b o eb)
      · rintro H7 ⟨r, ts, g1, pd, rows, inj, fr, sm⟩
        rw [List.length_map, List.take_length] at pd rows inj fr
        have fr0 : ∀ s ∈ S, H (r s) = none := fun s hs => sb06.free S86 (fr s hs)
        refine ⟨Dn, ts, tab S fun s => .ref (r s), rfl, SqL.of g1, paired_right (h := fun s => ((Sum.inr s : Key), V.ref (r s))) (fun t' s ht => SqT.of ht) pd, fun fo hfo => ?_⟩
        rw [merge_tab hSn]
        have s7 := same_upd (o := .dK (tab S fun s => .ref (r s))) hfo
        have sm7 : Same H6 (upd H7 fo (.dK (tab S fun s => .ref (r s)))) := sm.trans s7
        have hfo0 : H fo = none := sb06.free S86 (Same.free sm hfo)
        have G0 : Gr (upd H7 fo (.dK (tab S fun s => .ref (r s)))) fo S (fun _ => L.take 0) r (fun _ _ => 0) (fun _ _ => S.headD "") (fun _ _ => S.headD "") :=
          ⟨upd_same, fun s hs => s7 _ _ (rows s hs), by simp, by simp, inj⟩
        -- the loop over the letters
        refine ⟨_, rfl, ll, rfl, ⟨_, SqL.of (sm7 _ _ gll6)⟩, for_list (K := K) (a := ll) (xs := L.map V.str) (fun i σ H8 => ∃ (t : Str → Str → Addr) (g d : Str → Str → Str) (c8 : Nat) (v8 v9 v10 v11 v12 : Option V),
          σ = [some (.ref p), some (.int (n : Nat)), some (.int (m : Nat)), some (.ref ls), some (.ref ll), some (.int lk), some (.ref sg), some (.ref fo), v8, v9, v10, v11, v12] ∧ Gr H8 fo S (fun _ => L.take i) r t g d ∧ c8 ≤ c6 + 24 * i ∧ Str8 p q c8 H8 ∧ H8 ls = some (.lst (S.map V.str)) ∧ H8 ll = some (.lst (L.map V.str)) ∧ H8 sg = some (.lst (sgs.map V.str)) ∧ SB p q H H8)
          ⟨_, _, _, c6, none, none, none, none, none, rfl, G0, Nat.le_refl _, S86.same sm7, sm7 _ _ gls6, sm7 _ _ gll6, sm7 _ _ gsg, sb06.trans (sb_of sm7)⟩ ?_ ?_ ?_⟩
        · rintro i σ H8 _ ⟨t, g, d, c8, v8, v9, v10, v11, v12, rfl, G, hc8, S88, gls8, gll8, gsg8, sb8⟩
          exact SqL.of gll8
        · rintro i x σ H8 hi ⟨t, g, d, c8, v8, v9, v10, v11, v12, rfl, G, hc8, S88, gls8, gll8, gsg8, sb8⟩
          rw [List.getElem?_map] at hi
          cases hx : L[i]? with
          | none => rw [hx] at hi; cases hi
          | some a0 =>
            rw [hx] at hi
            obtain rfl : V.str a0 = x := Option.some.inj hi
            have nia := nodup_take hLn hx
            have hiL : i < L.length := (List.getElem?_eq_some_iff.mp hx).1
            refine ⟨_, rfl, _, rfl, p, q, ls, c8, S.map V.str, rfl, S88, by rw [List.length_map]; omega, SqL.of gls8, nls.1, nls.2, by rw [List.length_map]; omega, fun ys gr H9 pm hgr ggr S89 sb9 => ?_⟩
            obtain ⟨zs, pz, rfl⟩ := perm_map (g := vStr) (fun _ => rfl) pm
            rw [List.length_map] at S89
            have ngr := S88.nnew hgr
            have gls9 := sb9 _ _ gls8 nls.1 nls.2
            have gsg9 := sb9 _ _ gsg8 nsg1 nsg2
            have gll9 := sb9 _ _ gll8 nll.1 nll.2
            have hgr0 : H gr = none := sb8.free S88 hgr
            have G9 := G.sb S88 sb9
            refine ⟨_, rfl, ls, _, rfl, SqL.of gls9, for_it (walk_enum (K := K) (a := ls) (xs := S.map V.str)) (fun j σ HA => ∃ (t : Str → Str → Addr) (g d : Str → Str → Str) (cA : Nat) (v10 v11 v12 : Option V),
              σ = [some (.ref p), some (.int (n : Nat)), some (.int (m : Nat)), some (.ref ls), some (.ref ll), some (.int lk), some (.ref sg), some (.ref fo), some (.str a0), some (.ref gr), v10, v11, v12] ∧ Gr HA fo S (fun z => if z ∈ S.take j then L.take (i + 1) else L.take i) r t g d ∧ cA ≤ c8 + S.length + 2 * j ∧ Str8 p q cA HA ∧ HA ls = some (.lst (S.map V.str)) ∧ HA ll = some (.lst (L.map V.str)) ∧ HA sg = some (.lst (sgs.map V.str)) ∧ HA gr = some (.lst (zs.map V.str)) ∧ SB p q H HA)
              ⟨t, g, d, _, _, _, _, rfl, G9.congr (by simp), by omega, S89, gls9, gll9, gsg9, ggr, sb8.trans sb9⟩ ?_ ?_ ?_⟩
            · rintro j σ HA _ ⟨t, g, d, cA, v10, v11, v12, rfl, GA, hcA, S8A, glsA, gllA, gsgA, ggrA, sbA⟩
              exact SqL.of glsA
            · rintro j x σ HA HT hj ⟨t, g, d, cA, v10, v11, v12, rfl, GA, hcA, S8A, glsA, gllA, gsgA, ggrA, sbA⟩ ⟨Tp, x1, y1, rfl, hT, rfl, e1, e2⟩
              obtain rfl := Option.some.inj e1
              have e2 : (S.map V.str)[j]? = some y1 := e2
              rw [List.getElem?_map] at e2
              cases hs : S[j]? with
              | none => rw [hs] at e2; cases e2
              | some s =>
                rw [hs] at e2
                obtain rfl : V.str s = y1 := Option.some.inj e2
                have hsS : s ∈ S := List.mem_of_getElem? hs
                have hjS : j < S.length := (List.getElem?_eq_some_iff.mp hs).1
                have nis := nodup_take hSn hs
                refine ⟨Tp, _, rfl, SqT.of upd_same, rfl, _, _, rfl, _, _, rfl, rfl, ?_⟩
                have smT := same_upd (o := .tup [.int (j : Nat), .str s]) hT
                have gls10 := smT _ _ glsA
                have ggr10 := smT _ _ ggrA
                have gsg10 := smT _ _ gsgA
                have gll10 := smT _ _ gllA
                have GT := GA.same smT
                have S8T := S8A.new (o := .tup [.int (j : Nat), .str s]) hT
                have sbT : SB p q H (upd HA Tp (.tup [.int (j : Nat), .str s])) := sbA.trans (sb_of smT)
                refine ⟨fun σ' HB => ∃ (y : Str) (cB : Nat), σ' = [some (.ref p), some (.int (n : Nat)), some (.int (m : Nat)), some (.ref ls), some (.ref ll), some (.int lk), some (.ref sg), some (.ref fo), some (.str a0), some (.ref gr), some (.int (j : Nat)), some (.str s), some (.str y)] ∧ y ∈ S ∧
                  Gr HB fo S (fun z => if z ∈ S.take j then L.take (i + 1) else L.take i) r t g d ∧ cB ≤ cA + 1 ∧ Str8 p q cB HB ∧ HB ls = some (.lst (S.map V.str)) ∧ HB ll = some (.lst (L.map V.str)) ∧ HB sg = some (.lst (sgs.map V.str)) ∧ HB gr = some (.lst (zs.map V.str)) ∧ SB p q H HB, ?_, ?_⟩
                · refine ⟨_, rfl, rfl, _, rfl, ?_⟩
                  refine ite2 (fun _ => ?_) fun _ => ?_
                  · have hjz : j < zs.length := by rw [pz.length_eq]; exact hjS
                    refine ⟨_, rfl, _, rfl, gr, zs.map V.str, (j : Nat), V.str zs[j], rfl, rfl, SqL.of ggr10, at_ofA rfl (by rw [List.getElem?_map, List.getElem?_eq_getElem hjz]; rfl), ?_⟩
                    exact ⟨zs[j], cA, rfl, pz.mem_iff.mp (List.getElem_mem hjz), GT, by omega, S8T, gls10, gll10, gsg10, ggr10, sbT⟩
                  · refine ⟨_, rfl, _, rfl, p, q, ls, cA, S.map V.str, rfl, S8T, by omega, SqL.of gls10, nls.1, nls.2, by rw [List.length_map]; omega, by rw [List.length_map]; omega, fun k1 v HB hv S8B sbB' => ?_⟩
                    rw [List.getElem?_map] at hv
                    cases hy : S[k1]? with
                    | none => rw [hy] at hv; cases hv
                    | some y =>
                      rw [hy] at hv
                      obtain rfl : V.str y = v := Option.some.inj hv
                      exact ⟨y, cA + 1, rfl, List.mem_of_getElem? hy, GT.sb S8T sbB', Nat.le_refl _, S8B, sbB' _ _ gls10 nls.1 nls.2, sbB' _ _ gll10 nll.1 nll.2, sbB' _ _ gsg10 nsg1 nsg2, sbB' _ _ ggr10 ngr.1 ngr.2, sbT.trans sbB'⟩
                · rintro σ' HB ⟨y, cB, rfl, hy, GB, hcB, S8B, glsB, gllB, gsgB, ggrB, sbB2⟩
                  refine ⟨_, rfl, _, rfl, p, q, sg, cB, sgs.map V.str, rfl, S8B, by omega, SqL.of gsgB, nsg1, nsg2, by rw [List.length_map]; exact List.length_pos_iff.mpr sgs0', by rw [List.length_map]; omega, fun k1 v HC hv S8C sbC => ?_⟩
                  rw [List.getElem?_map] at hv
                  cases hz : sgs[k1]? with
                  | none => rw [hz] at hv; cases hv
                  | some z =>
                    rw [hz] at hv
                    obtain rfl : V.str z = v := Option.some.inj hv
                    have hzn := sgn z (List.mem_of_getElem? hz)
                    refine ⟨_, rfl, sz_le (by simp), fun tn htn => ?_⟩
                    have smN := same_upd (o := .tup [.str z, .str y]) htn
                    have GC := (GB.sb S8B sbC).same smN
                    have hLs : (fun z => if z ∈ S.take j then L.take (i + 1) else L.take i) s = L.take i := by simp [nis]
                    refine ⟨_, rfl, _, rfl, fo, V.ref (r s), rfl, .inl ⟨_, Sum.inr s, .inl GC.top, rfl, (tab_in (f := fun s => V.ref (r s)) hsS).symm⟩, ?_⟩
                    have hrow := GC.row s hsS
                    refine ⟨_, rfl, r s, _, rfl, DPut.k (k := Sum.inr a0) hrow (by rw [tab_len]; simp only [nis, if_false]; exact small1000 (Nat.le_trans (List.length_take_le' _ _) (by omega))), ?_⟩
                    have GP := GC.put (s := s) (a := a0) (x := z) (y := y) (tn := tn) hsS (by simp only [nis, if_false]; exact nia) upd_same hzn hy
                    refine ⟨_, _, _, cB + 1, _, _, _, rfl, GP.congr (fun z hz => ?_), by omega, (S8C.same smN).put (S8C.same smN |>.nd hrow (by intro xs e; cases e)).1 (S8C.same smN |>.nd hrow (by intro xs e; cases e)).2, ?_, ?_, ?_, ?_, ?_⟩
                    · rw [take_snoc hs]
                      by_cases e : z = s
                      · subst e
                        simp [nis, take_snoc hx]
                      · simp [e]
                    · rw [upd_ne (ne_of (smN _ _ (sbC _ _ glsB nls.1 nls.2)) hrow (by intro z; cases z))]
                      exact smN _ _ (sbC _ _ glsB nls.1 nls.2)
                    · rw [upd_ne (ne_of (smN _ _ (sbC _ _ gllB nll.1 nll.2)) hrow (by intro z; cases z))]
                      exact smN _ _ (sbC _ _ gllB nll.1 nll.2)
                    · rw [upd_ne (ne_of (smN _ _ (sbC _ _ gsgB nsg1 nsg2)) hrow (by intro z; cases z))]
                      exact smN _ _ (sbC _ _ gsgB nsg1 nsg2)
                    · rw [upd_ne (ne_of (smN _ _ (sbC _ _ ggrB ngr.1 ngr.2)) hrow (by intro z; cases z))]
                      exact smN _ _ (sbC _ _ ggrB ngr.1 ngr.2)
                    · intro b o eb h1 h2
                      rw [upd_ne (ne_of_none eb (fr0 s hsS))]
                      exact smN _ _ ((sbB2.trans sbC) b o eb h1 h2)
            · rintro σ HA ⟨t, g, d, cA, v10, v11, v12, rfl, GA, hcA, S8A, glsA, gllA, gsgA, ggrA, sbA⟩
              rw [List.length_map] at GA hcA
              refine ⟨t, g, d, cA, _, _, _, _, _, rfl, GA.congr (fun s hs => by rw [List.take_length]; simp [hs]), by omega, S8A, glsA, gllA, gsgA, sbA⟩
        · rintro σ H8 ⟨t, g, d, c8, v8, v9, v10, v11, v12, rfl, G, hc8, S88, gls8, gll8, gsg8, sb8⟩
          rw [List.length_map] at G hc8
          have G := G.congr (Ls' := fun _ => L) (fun s hs => List.take_length)
          have fin : ∀ (H9 : Hp) (r : Str → Addr) (t : Str → Str → Addr) (g d : Str → Str → Str), Gr H9 fo S (fun _ => L) r t g d → Str8 p q c8 H9 → SB p q H H9 → Q (.ref fo) H9 := fun H9 r t g d G S89 sb9 =>
            k fo ⟨S, L, g, d⟩ r t c8 H9 hfo0 ⟨G.top, G.row, G.cel⟩ ⟨hS0, hSn, hSm, (show S.length ≤ 8 by omega), hL0, hLn, hLm, (show L.length ≤ 8 by omega), fun s hs a ha => (G.nm s hs a ha).2, fun s hs a ha => (G.nm s hs a ha).1⟩ (by omega) S89 sb9
          refine ⟨_, rfl, rfl, _, rfl, ?_⟩
          refine ite2 (fun _ => ?_) fun _ => ?_
          · refine ⟨_, rfl, _, _, rfl, .inl ⟨_, SqL.of gls8, rfl⟩, _, _, rfl, rfl, _, rfl, ?_⟩
            refine ite2 (fun _ => ?_) fun _ => ?_
            · obtain ⟨s1, S1, eS⟩ := List.exists_cons_of_ne_nil hS0
              obtain ⟨S2, s2, eS2⟩ : ∃ S2 s2, S = S2 ++ [s2] := by
                rcases List.eq_nil_or_concat S with h | ⟨u, a, h⟩
                · exact absurd h hS0
                · exact ⟨u, a, by simpa using h⟩
              have hs1 : s1 ∈ S := by rw [eS]; simp
              have hs2 : s2 ∈ S := by rw [eS2]; simp
              have hlast : atI (S.map V.str) (-1) = some (V.str s2) := by
                rw [eS2, List.map_append]
                exact atI_last _ _
              refine ⟨_, rfl, _, rfl, ls, _, 0, V.str s1, rfl, rfl, SqL.of gls8, at_ofA (j := 0) rfl (by rw [eS]; rfl), fo, V.ref (r s1), rfl, .inl ⟨_, Sum.inr s1, .inl G.top, rfl, (tab_in (f := fun s => V.ref (r s)) hs1).symm⟩, r s1, _, rfl, .inl (G.row s1 hs1), fun rn hrn => ?_⟩
              have sm := same_upd (o := .dK (tab L fun a => .ref (t s1 a))) hrn
              refine ⟨_, rfl, _, rfl, _, rfl, ls, _, -1, V.str s2, rfl, rfl, SqL.of (sm _ _ gls8), hlast, fo, _, rfl, DPut.k (k := Sum.inr s2) (sm _ _ G.top) (by rw [tab_len]; exact small1000 (by omega)), ?_⟩
              have GD := (G.dup hs2 hs1 hrn).congr (Ls' := fun _ => L) (fun s hs => by simp)
              have nfo := (S88.same sm).nd (sm _ _ G.top) (by intro xs e; cases e)
              exact ⟨_, rfl, fin _ _ _ _ _ GD ((S88.same sm).put nfo.1 nfo.2) fun b o eb h1 h2 => by rw [upd_ne (ne_of_none eb hfo0)]; exact sm _ _ (sb8 b o eb h1 h2)⟩
            · exact ⟨_, rfl, fin H8 r t g d G S88 sb8⟩
          · exact iteF ⟨_, rfl, fin H8 r t g d G S88 sb8⟩
end
end K45
end
section
set_option maxRecDepth 100000
set_option maxHeartbeats 4000000
/-! enumerate(d) over a locked dict; list(d.values()) -/
namespace K45
open PySem PySem.Spec PyProof.Rows L2
section
variable {prog : Program} {w : World} {A : Around} {E : Value → Shared → Prop} {s : Shared}
theorem keyNext {it d : Addr} {i n ep : Nat} {od : Obj} {es : Array DictEntry} {en : DictEntry} {Q : Value → Shared → Prop} (hit : s.heap.IsKeyIter it d i n ep) (hod : s.heap.get? d = some od) (hdd : od.data = .dict es ep) (hsz : es.size = n) (hx : es[i]? = some en)
    (hQ : ∀ h', h'.IsKeyIter it d (i + 1) n ep → Heap.SameBut it s.heap h' → Q en.key { s with heap := h' }) : wpAny (model prog w) A (Builtin.SmallTypes.nextOf (.ref it)) Q E s := by
  obtain ⟨o, ho, hc, hd⟩ := id hit
  have hown : Builtin.Dict_items.ownsTuple "dict_keyiterator" = false := by decide
  obtain ⟨hlt', hen⟩ := Array.getElem?_eq_some_iff.mp hx
  unfold Builtin.SmallTypes.nextOf
  refine wpAny_bind (wpAny_callSpecial?_slot (name := Str.ofString "__next__") hit.typeIs F.slot_dict_keyiterator_next (wpAny_call_entry F.slot_dict_keyiterator_next hit.typeIs F.entry_dict_keyiterator_next ?_ (F.args_dict_keyiterator_next_1 _)))
  refine wpAny_bind (wpAny_pure (wpAny_bind (wpAny_bind ?_)))
  first | refine wpAny_bind (wpAny_typeNameOfWhole_keyiter hit.typeIs (wpAny_pure (wpAny_bind (wpAny_fieldsOf ho hd ?_)))) | refine wpAny_bind (wpAny_typeNameOf_keyiter hit.typeIs (wpAny_pure (wpAny_bind (wpAny_fieldsOf ho hd ?_))))
  simp only [hown, Bool.false_eq_true, if_false]
  show wpAny _ _ (if (Value.ref d == Value.none) = true then _ else _) _ _ s
  rw [if_neg (show ¬ ((Value.ref d == Value.none) = true) from Bool.false_ne_true)]
  refine wpAny_bind (wpAny_pure (wpAny_bind (wpAny_dictEntries hod hdd ?_)))
  rw [if_neg (by rw [hsz]; simp)]
  refine wpAny_bind (wpAny_pure (wpAny_bind (wpAny_dictEpoch hod hdd ?_)))
  rw [if_neg (by simp)]
  refine wpAny_pure ?_
  simp only [show ¬ ((i : Int) < 0) from by omega, if_false, Int.toNat_natCast, Array.getElem?_eq_getElem hlt']
  refine wpAny_bind ?_
  first | refine wpAny_bind (wpAny_typeNameOfWhole_keyiter hit.typeIs (wpAny_pure (wpAny_bind (wpAny_isOneOf_keyiter hit.typeIs ?_)))) | refine wpAny_bind (wpAny_typeNameOf_keyiter hit.typeIs (wpAny_pure (wpAny_bind (wpAny_isOneOf_keyiter hit.typeIs ?_))))
  show wpAny _ _ (setField (.ref it) 1 (rawInt ((i : Int) + 1)) >>= _) _ _ s
  have hit' : (s.heap.update it (Obj.mapFields (·.setIfInBounds 1 (rawInt ((i : Int) + 1))))).IsKeyIter it d (i + 1) n ep := ⟨_, Heap.get?_update_self _ ho (Obj.isFreed_of_fields (Obj.data_mapFields hd _)), (Obj.cls_mapFields ..).trans hc, by rw [Obj.data_mapFields hd]; simp [rawInt]⟩
  refine wpAny_bind (wpAny_setField ho hd (by simp) (wpAny_bind (wpAny_holding (wpAny_bind (wpAny_isOneOf_keyiter (s := { s with heap := s.heap.update it (Obj.mapFields (·.setIfInBounds 1 (rawInt ((i : Int) + 1)))) }) hit'.typeIs ?_)))))
  show wpAny _ _ (pure es[i].key) _ _ _
  rw [hen]
  exact wpAny_pure (wpAny_pure ⟨_, rfl, wpAny_pure (hQ _ hit' (Heap.SameBut.update ..))⟩)
theorem keyStop {it d : Addr} {i n ep : Nat} {od : Obj} {es : Array DictEntry} {Q : Value → Shared → Prop} (hh : A.handled = none) (hit : s.heap.IsKeyIter it d i n ep) (hod : s.heap.get? d = some od) (hdd : od.data = .dict es ep) (hsz : es.size = n) (hge : n ≤ i)
    (hE : ∀ h' e, Heap.ExtBut it s.heap h' → (∃ o, h'.get? e = some o ∧ o.cls = .type "StopIteration") → E (.ref e) { s with heap := h' }) : wpAny (model prog w) A (Builtin.SmallTypes.nextOf (.ref it)) Q E s := by
  obtain ⟨o, ho, hc, hd⟩ := id hit
  have hown : Builtin.Dict_items.ownsTuple "dict_keyiterator" = false := by decide
  have hge' : es.size ≤ i := by rw [hsz]; exact hge
  unfold Builtin.SmallTypes.nextOf
  refine wpAny_bind (wpAny_callSpecial?_slot (name := Str.ofString "__next__") hit.typeIs F.slot_dict_keyiterator_next (wpAny_call_entry F.slot_dict_keyiterator_next hit.typeIs F.entry_dict_keyiterator_next ?_ (F.args_dict_keyiterator_next_1 _)))
  refine wpAny_bind (wpAny_pure (wpAny_bind (wpAny_bind ?_)))
  first | refine wpAny_bind (wpAny_typeNameOfWhole_keyiter hit.typeIs (wpAny_pure (wpAny_bind (wpAny_fieldsOf ho hd ?_)))) | refine wpAny_bind (wpAny_typeNameOf_keyiter hit.typeIs (wpAny_pure (wpAny_bind (wpAny_fieldsOf ho hd ?_))))
  simp only [hown, Bool.false_eq_true, if_false]
  show wpAny _ _ (if (Value.ref d == Value.none) = true then _ else _) _ _ s
  rw [if_neg (show ¬ ((Value.ref d == Value.none) = true) from Bool.false_ne_true)]
  refine wpAny_bind (wpAny_pure (wpAny_bind (wpAny_dictEntries hod hdd ?_)))
  rw [if_neg (by rw [hsz]; simp)]
  refine wpAny_bind (wpAny_pure (wpAny_bind (wpAny_dictEpoch hod hdd ?_)))
  rw [if_neg (by simp)]
  refine wpAny_pure ?_
  simp only [show ¬ ((i : Int) < 0) from by omega, if_false, Int.toNat_natCast, Array.getElem?_eq_none hge']
  refine wpAny_bind ?_
  first | refine wpAny_bind (wpAny_typeNameOfWhole_keyiter hit.typeIs (wpAny_pure ?_)) | refine wpAny_bind (wpAny_typeNameOf_keyiter hit.typeIs (wpAny_pure ?_))
  show wpAny _ _ (setField (.ref it) 0 .none >>= _) _ _ s
  refine wpAny_bind (wpAny_setField ho hd (by simp) ?_)
  show wpAny _ _ (newExc (.type "StopIteration") [] >>= _) _ _ _
  refine wpAny_bind ?_
  simp only [newExc, newTuple]
  refine wpAny_bind (wpAny_newObj_type (wpAny_bind (m := firstArgMember _ _) (wpAny_of_eq (a := Value.none) (by first | rfl | (simp only [firstArgMember]; rfl)) ?_)) (by size_fits))
  refine wpAny_newObj_type ?_ (by size_fits)
  simp only [raiseNew]
  refine wpAny_bind (wpAny_handled ?_)
  first | rw [show A.in1.handled = none from hh] | rw [hh]
  refine wpAny_bind (wpAny_pure (wpAny_throw (hE _ _ (((Heap.SameBut.update ..).extBut.push _).push _) ⟨_, Heap.get?_push_size _ rfl, rfl⟩)))
/-- what the keys' iterator draws -/
theorem keyDraws (hh : A.handled = none) (it d : Addr) (hne : d ≠ it) {od : Obj} {es : Array DictEntry} {ep : Nat} (hdd : od.data = .dict es ep) :
    Draws prog w A it [it, d] es.size (fun i v => ∃ en, es[i]? = some en ∧ v = en.key) (fun i h => h.IsKeyIter it d i es.size ep ∧ h.get? d = some od) where
  live := fun _ _ st => let ⟨o, ho, _⟩ := st.1; ⟨o, ho⟩
  frame := fun _ _ _ st hk => ⟨st.1.at fun o e => hk it (by simp) o e, hk d (by simp) _ st.2⟩
  item := fun i s Q E hi st hQ => keyNext st.1 st.2 hdd rfl (Array.getElem?_eq_getElem hi) fun h' hit' hs' => hQ _ h' s.toks ⟨_, Array.getElem?_eq_getElem hi, rfl⟩ ⟨hit', (hs'.2 d hne).trans st.2⟩ hs'
  done := fun s Q E st hE => keyStop hh st.1 st.2 hdd rfl (Nat.le_refl _) hE
theorem keyBegins (d : Addr) {od : Obj} {es : Array DictEntry} {ep : Nat} (hs : (d == sysModules) = false) (hx : od.ExactDict) (hdd : od.data = .dict es ep) :
    Begins (.ref d) { cls := .type "dict_keyiterator", data := .fields #[.ref d, .int 0 0, .int es.size 0, .int ep 0] } fun h => h.get? d = some od where
  iter := fun prog w A E s Q ho h => iter_keys hs ho hx hdd h
  keeps := fun h h' x hk => hk _ _ x
  free := rfl
/-- enumerate(v), whatever v is -/
theorem enumMeets {v : Value} {o : Obj} {H : Heap → Prop} (B : Begins v o H) :
    Meets (Builtin.«enumerate.__new__» ⟨[.type "enumerate", v], []⟩) (fun _ R s => H s.heap ∧
      R (.ok (.ret (.ref (s.heap.push o).objs.size))) { s with heap := (s.heap.push o).push { cls := .type "enumerate", data := .fields #[.none, .bool false, .ref s.heap.objs.size, rawInt 0, .none, .none] } }) :=
  .of_wp fun prog w A R s h => by
    obtain ⟨hp, g, d, tk, os⟩ := s
    obtain ⟨h1, h⟩ := h
    have hsub := sub_enumerate
    have q1 : ∀ {A' : Around} {E : Value → Shared → Prop} {Q : Value → Shared → Prop}, Q (.ref hp.objs.size) ⟨hp.push o, g, d, tk, os⟩ → wpAny (model prog w) A' (pyIter v) Q E ⟨hp, g, d, tk, os⟩ := fun q => B.iter prog w _ _ ⟨hp, g, d, tk, os⟩ _ h1 q
    wp_walk using q1
    refine wpAny_stack_any fun st => wpAny_pure ?_
    split
    · rename_i c _ _ _ _ _
      cases (c == Value.type "enumerate") <;> (wp_walk using q1; exact ⟨_, rfl, h⟩)
    · wp_walk using q1
      exact ⟨_, rfl, h⟩
theorem enumCall {v : Value} {o : Obj} {H : Heap → Prop} {Q : Value → Shared → Prop} (B : Begins v o H) (h1 : H s.heap)
    (h : ∀ h', IsEnum h' (s.heap.objs.size + 1) s.heap.objs.size 0 .none → h'.get? s.heap.objs.size = some o → h'.objs.size = s.heap.objs.size + 2 → (∀ b o, s.heap.get? b = some o → h'.get? b = some o) → Q (.ref (s.heap.objs.size + 1)) { s with heap := h' }) :
    wpAny (model prog w) A (call (.type "enumerate") [v]) Q E s := by
  refine callType_new F.called_enumerate (by decide) (F.typeCall_enumerate_1 _) (F.newCall_enumerate_1 _) (fun obj => F.args_object_init_2 obj _) F.entry_enumerate_new (enumMeets B) ⟨h1, ?_⟩
  have hz : (s.heap.push o).objs.size = s.heap.objs.size + 1 := Heap.size_push ..
  show _ ∧ _
  rw [hz]
  have he : IsEnum ((s.heap.push o).push { cls := .type "enumerate", data := .fields #[.none, .bool false, .ref s.heap.objs.size, rawInt 0, .none, .none] }) (s.heap.objs.size + 1) s.heap.objs.size 0 .none := by
    have := Heap.get?_push_size (s.heap.push o) (o := { cls := .type "enumerate", data := .fields #[.none, .bool false, .ref s.heap.objs.size, rawInt 0, .none, .none] }) rfl
    rw [hz] at this; exact this
  exact ⟨⟨_, he, rfl⟩, h _ he (Heap.get?_push_of_some _ (Heap.get?_push_size _ B.free)) (by rw [Heap.size_push, hz]) fun b o x => Heap.get?_push_of_some _ (Heap.get?_push_of_some _ x)⟩
end
/-- the locked dict's keys, numbered, in new pairs -/
def Iek (d : Addr) (o : Obj) (kvs : List (Key × V)) : It :=
  ⟨fun i H => H d = some (.frz o (.dK kvs)) ∧ i < kvs.length, fun i H v H' => ∃ T k x, kvs[i]? = some (k, x) ∧ v = .ref T ∧ H T = none ∧ H' = upd H T (.tup [.int (i : Nat), kV k]), fun i H => H d = some (.frz o (.dK kvs)) ∧ kvs.length ≤ i⟩
theorem walk_ekeys {d : Addr} {o : Obj} {kvs : List (Key × V)} : Walk (Iek d o kvs) kvs.length (fun H => H d = some (.frz o (.dK kvs))) (YPair (fun i => some (.int (i : Nat))) (fun i => kvs[i]?.map fun kv => kV kv.1)) := by
  refine ⟨fun _ _ hi q => ⟨q, hi⟩, fun _ q => ⟨q, Nat.le_refl _⟩, fun i H x H' _ _ y => ?_⟩
  obtain ⟨T, k, v, h1, h2, h3, h4⟩ := y
  exact ⟨T, .int (i : Nat), kV k, h2, h3, h4, rfl, by simp [h1]⟩
section
variable {P : Program} {w : World} {K : PySem.W.Frag} {elts : List Expr} {kk : Nat} {tpos : Pos} {es : Array DictEntry} {ep : Nat} {o : Obj} {d : Addr}
theorem turn_ekeys {kvs : List (Key × V)} (e it : Addr) (hod : o.data = .dict es ep) (hz : es.size = kvs.length) :
    Turn P w K (.Tuple elts kk tpos) (Iek d o kvs) [e, it] e (fun i h => (∃ old, IsEnum h e it ((i : Nat) : Int) old) ∧ h.IsKeyIter it d i es.size ep ∧ e ≠ it) where
  mem := by simp
  obj := fun i h st b hb => by
    obtain ⟨⟨old, he⟩, ⟨o', ho, hc, hd⟩, _⟩ := st
    have e' : b = e ∨ b = it := by simpa using hb
    rcases e' with z | z
    · rw [z]; exact ⟨_, he, fun v q => nomatch q⟩
    · rw [z]; exact ⟨o', ho, fun v q => by rw [hd] at q; cases q⟩
  keep := fun i h h' st k => let ⟨⟨old, he⟩, hi, hne⟩ := st; ⟨⟨old, k e (by simp) _ he⟩, hi.at fun o q => k it (by simp) o q, hne⟩
  item := by
    intro X hP hw hK hc i pins s σ H E I hf st hg
    subst hP hw hK
    obtain ⟨⟨old, he⟩, hit, hne⟩ := st
    obtain ⟨hd, hi⟩ := hg
    obtain ⟨hs, hgd, hx, es', ep', vs, hdt, hsz, kv, hm⟩ := I.frzK hd
    obtain ⟨rfl, rfl⟩ := dict_ep hod hdt
    obtain ⟨⟨k, v⟩, hkv⟩ : ∃ p, kvs[i]? = some p := ⟨kvs[i], List.getElem?_eq_getElem hi⟩
    obtain ⟨u, hu, ru⟩ := kv_get kv hkv
    have hel : e < s.heap.objs.size := Heap.lt_size he
    have hil : it < s.heap.objs.size := by obtain ⟨_, q, _⟩ := hit; exact Heap.lt_size q
    have nd : d ≠ it := fun z => by have := (hf it (by simp)).1; rw [← z, hd] at this; cases this
    have nde : e ≠ d := fun z => by have := (hf e (by simp)).1; rw [z, hd] at this; cases this
    have D := keyDraws (prog := X.prog) (w := X.w) (A := X.A.in1) (I.ok.hd hc) it d nd hod
    refine wpAny_pyNext_enum_itemC D he ⟨hit, hgd⟩ (by rw [hz]; exact hi) hne (by simp [hne, nde]) fun x h' tk hP ho st' hT hsz' hk => ?_
    obtain ⟨en, hen, rfl⟩ := hP
    have hkey : RelV (kV k) en.key := by
      obtain ⟨oo, es2, ho2, hc2, hd2, hk2, hp2, hn2⟩ := id hm
      rw [hgd] at ho2
      cases ho2
      obtain ⟨rfl, _⟩ := dict_ep hod hd2
      exact relV_key (show keyIs k en.key = true from (hp2.get? (e := en) (by rw [Array.getElem?_toList]; exact hen) hu).1)
    refine ⟨_, rfl, wpAny_letOwnedTupleGo_enum (s := { s with heap := h', toks := tk + 1 }) ho fun h'' he' sb => ?_⟩
    have hT2 : h''.get? s.heap.objs.size = some { cls := .type "tuple", data := .seq #[.int i tk, en.key] } := (sb.2 _ (Nat.ne_of_gt hel)).trans hT
    have new : ObjOk X.prog X.w (upd H s.heap.objs.size (.tup [.int (i : Nat), kV k])) h'' s.heap.objs.size (.tup [.int (i : Nat), kV k]) :=
      ⟨by show 2 ≤ sizeLine; decide, [.int i tk, en.key], .cons ⟨_, rfl⟩ (.cons hkey .nil), ⟨_, hT2, rfl, _, rfl⟩⟩
    have I1 : Inv X pins σ (upd H s.heap.objs.size (.tup [.int (i : Nat), kV k])) { s with heap := h'', toks := tk + 1 } :=
      I.turnedNew (ch := [e, it]) (fun b ob hb q => (sb.2 b (fun z => hb (by simp [z]))).trans (hk b ob (fun z => hb (by simp [z])) (fun z => hb (by simp [z])) q)) hf (Nat.le_refl _) new
    refine ⟨.ref s.heap.objs.size, _, I1, rfl, ⟨_, k, v, hkv, rfl, I.hok.fresh (Nat.le_refl _), rfl⟩, ⟨⟨en.key, ?_⟩, st'.1.at fun o q => (sb.2 it (Ne.symm hne)).trans q, hne⟩, fun b hb => ?_⟩
    · have e1 : ((i + 1 : Nat) : Int) = (i : Int) + 1 := by omega
      rw [e1]; exact he'
    · have hb' : b < s.heap.objs.size := by
        have e' : b = e ∨ b = it := by simpa using hb
        rcases e' with z | z
        · rw [z]; exact hel
        · rw [z]; exact hil
      rw [upd_ne (Nat.ne_of_lt hb')]
      exact (hf b hb).1
  done := by
    intro X hP hw hK hc i pins s σ H E I hf st hg
    subst hP hw hK
    obtain ⟨⟨old, he⟩, hit, hne⟩ := st
    obtain ⟨hd, hi⟩ := hg
    obtain ⟨hs, hgd, hx, es', ep', vs, hdt, hsz, kv, hm⟩ := I.frzK hd
    obtain ⟨rfl, rfl⟩ := dict_ep hod hdt
    obtain ⟨f0, f1, f2, f3, f4, f5⟩ := hf it (by simp)
    have hT : s.TypeIs (.ref e) "enumerate" := ⟨_, he, rfl⟩
    unfold pyNext
    refine wpAny_bind (wpAny_attempt (wpAny_callSpecial?_slot (name := Str.ofString "__next__") hT F.slot_enumerate_next (wpAny_call_entry F.slot_enumerate_next hT F.entry_enumerate_next ?_ (F.args_enumerate_next_1 _))))
    show wpAny _ _ (field (.ref e) 2 >>= _) _ _ _
    refine wpAny_bind (wpAny_field he rfl (x := .ref it) rfl (wpAny_bind (keyStop (I.ok.hd hc) hit hgd hod rfl (by rw [hz]; exact hi) fun h' x hx2 ⟨oo, ho, hcc⟩ => ?_)))
    refine wpAny_bind (wpAny_isInstance (T := "StopIteration") (b := true) ⟨oo, ho, hcc⟩ isSubtype_stop ?_)
    exact wpAny_pure ⟨rfl, I.turned (t' := s.toks) (fun b o hb q => hx2 b o hb q) f0 f1 f3 f4 f5⟩
  self := fun A i s Q E st h => let ⟨⟨_, he⟩, _⟩ := st; wpAny_pyIter_enum he h
end
def iEnumD (ta : TA) : TI := fun σ H R => ta σ H fun vs H1 => ∃ d o kvs, vs = [.ref d] ∧ H1 d = some (.frz o (.dK kvs)) ∧ R (Iek d o kvs) H1
theorem enumD {X : Cx} {e : Expr} {ta : TA} {p pos tpos : Pos} {elts : List Expr} {kk : Nat} (hg : Gl X "enumerate") (hm : X.mg "enumerate" = none) (ha : PA X [e] ta) (hs : starEach [e] X.env = [(false, eval e X.env)] := by rfl) :
    PI X (.Tuple elts kk tpos) (.Call (.Name "enumerate" p) [e] [] pos) (iEnumD ta) := by
  refine ⟨fun pins s σ H R I h => ?_⟩
  refine Call_ (ld_blt I hg hm boot_enumerate (PyProof.Rows.callWith_type1 (thn (ha.run pos pins s σ H _ I h) fun us s1 ⟨vs, H1, I1, r1, q1⟩ => ?_) hs rfl))
  obtain ⟨d, o, kvs, ex, hd, q⟩ := q1
  subst ex
  cases r1 with
  | cons r rr =>
    cases rr
    cases r
    obtain ⟨hs', hgd, hx, es, ep, vs, hdt, hsz, kv, hm'⟩ := I1.frzK hd
    refine enumCall (keyBegins d hs' hx hdt) hgd fun h' he hit hsz' hk => wpAny_pyIter_enum he ?_
    have I2 : Inv X pins σ H1 { s1 with heap := h' } := I1.kept (t' := s1.toks) hk
    refine ⟨s1.heap.objs.size + 1, [s1.heap.objs.size + 1, s1.heap.objs.size], _, _, H1, rfl, I2, turn_ekeys (s1.heap.objs.size + 1) s1.heap.objs.size hdt hsz, ⟨⟨.none, he⟩, ⟨_, hit, rfl, rfl⟩, Nat.succ_ne_self _⟩, fun b hb => ?_, q⟩
    have e' : b = s1.heap.objs.size + 1 ∨ b = s1.heap.objs.size := by simpa using hb
    have hle : s1.heap.objs.size ≤ b := by
      rcases e' with z | z
      · rw [z]; exact Nat.le_add_right _ _
      · rw [z]; exact Nat.le_refl _
    exact I1.fpOk hle (I1.hok.fresh hle)
end K45
end
section
set_option maxRecDepth 100000
set_option maxHeartbeats 4000000
namespace K45
open PySem PySem.Spec PyProof.Rows L2
theorem vals_of_get {vs : List V} {us : List Value} (hl : us.length = vs.length) (h : ∀ (i : Nat) (v : V) (u : Value), vs[i]? = some v → us[i]? = some u → RelV v u) : Vals vs us := by
  induction vs generalizing us with
  | nil =>
    have : us = [] := List.length_eq_zero_iff.mp hl
    subst this
    exact .nil
  | cons v vs ih =>
    match us, hl with
    | u :: us, hl =>
      exact .cons (h 0 v u rfl rfl) (ih (by simpa using hl) fun i v' u' a b => h (i + 1) v' u' (by simpa using a) (by simpa using b))
/-- list(d.values()) -/
def tVals (te : TE) : TE := fun σ H Q => te σ H fun x H1 => ∃ (d : Addr) (kvs : List (Key × V)), x = .ref d ∧ Rd H1 d (.dK kvs) ∧ ∀ p, H1 p = none → Q (.ref p) (upd H1 p (.lst (kvs.map (·.2))))
section
variable {X : Cx} {e : Expr} {te : TE} {p pos apos cpos : Pos}
theorem listVals (hc : X.calm = true) (hg : Gl X "list") (hm : X.mg "list" = none) (he : PE X e te) (hbase : attributeBase e "values" X.env (eval e X.env) = eval e X.env := by rfl) (hline : (apos.endLine == cpos.line) = true := by rfl)
    (hs : starEach [.Call (.Attribute e "values" apos) [] [] cpos] X.env = (false, eval (.Call (.Attribute e "values" apos) [] [] cpos) X.env) :: starEach [] X.env := by rfl) :
    PE X (.Call (.Name "list" p) [.Call (.Attribute e "values" apos) [] [] cpos] [] pos) (tVals te) := by
  refine ⟨fun pins s σ H Q I hq => ?_⟩
  refine wpAny_Call_Name_kw (ld_blt I hg hm (by decide +kernel : bootBuiltins "list" = some (.type "list")) (PyProof.Rows.callWith_type1 ?_ hs rfl))
  rw [hs]
  show wpAny _ _ (spliced ((false, eval (.Call (.Attribute e "values" apos) [] [] cpos) X.env) :: backTo pos (starEach [] X.env))) _ _ s
  refine Calls.spliced_cons (wpAny_Call_method (T := "dict") (id := "dict.values") hbase rfl hline F.plainAttrs_dict F.slot_dict_values F.type_dict_values (thn (he.run pins s σ H _ I hq) fun u s1 ⟨x, H1, I1, rx, d, kvs, ex, hd, q⟩ => ?_))
  subst ex
  obtain rfl : u = Value.ref d := rx
  obtain ⟨hz, hs0, vs, kv, hdo⟩ := dk_rd I1.hok hd
  have lk : kvs.length = vs.length := Paired.length kv
  obtain ⟨ep, hat⟩ := hdo.dictAt
  have I2 : Inv X pins σ H1 { s1 with heap := s1.heap.push { cls := .type "dict_values", data := .fields #[.ref d] } } := I1.kept (t' := s1.toks) fun b ob q => Heap.get?_push_of_some _ q
  refine ⟨hdo.typeIs, hdo.mapOf.noDict, ?_⟩
  show wpAny _ _ (callWith cpos (.builtin "dict.values") [.ref d] [] []) _ X.xe s1
  refine method_meetsIn F.slot_dict_values F.entry_dict_values rfl (PySem.evalArgs_none ⟨rfl, hdo.typeIs, F.args_dict_values_1 _, _, meets_dict_values (mixKind X.prog X.w) d hs0, ⟨vs, hdo⟩, ?_⟩)
  refine Calls.spliced_nil ?_
  have hview : (s1.heap.push { cls := .type "dict_values", data := .fields #[.ref d] }).IsValuesView s1.heap.objs.size d := ⟨_, Heap.get?_push_size _ rfl, rfl, rfl⟩
  refine PySem.W.kdl_call (PySem.W.kdl_values (knd := mixKind X.prog X.w) (r := s1.heap.objs.size) (d := d) (kvs := vs) (ep := ep)) (I1.ok.hd hc) ⟨hview, hat.push _⟩ (by omega) fun h' tk acc c' hk hD hacc => ?_
  have hv : Vals (kvs.map (·.2)) acc.toList := by
    refine vals_of_get (by rw [Array.length_toList, List.length_map, hacc.1, lk]) fun i v u hv hu => ?_
    rw [List.getElem?_map] at hv
    cases hk0 : kvs[i]? with
    | none => rw [hk0] at hv; cases hv
    | some kv0 =>
      rw [hk0] at hv
      obtain rfl : kv0.2 = v := Option.some.inj hv
      obtain ⟨u0, hu0, ru⟩ := kv_get kv (k := kv0.1) (v := kv0.2) hk0
      obtain ⟨k1, eu⟩ := hacc.2 i u (by rw [← Array.getElem?_toList]; exact hu)
      rw [hu0] at eu
      have eu := (Prod.mk.inj (Option.some.inj eu)).2
      rw [← eu]
      exact ru
  have hn : H1 (s1.heap.push { cls := .type "dict_values", data := .fields #[.ref d] }).objs.size = none := I2.hok.fresh (Nat.le_refl _)
  exact ⟨.ref _, _, I2.laid (t' := tk) hk (Nat.le_refl _) (show ObjOk X.prog X.w _ _ _ (.lst (kvs.map (·.2))) from ⟨by rw [List.length_map]; exact hz, acc.toList, c', hv, by rw [Array.toArray_toList]; exact hD⟩), rfl, q _ hn⟩
end
end K45
end
section
set_option maxRecDepth 100000
set_option maxHeartbeats 4000000
/-! sets of texts: set(xs), sorted(set), len(set); a set of one tuple of texts -/
namespace K45
open PySem PySem.Spec PyProof.Rows L2
abbrev emptySet (w : World) : Obj := { cls := .type "set", dict := none, data := .set #[] 0 (.fresh 0 0 (!w.params.followText "set-order")) }
def sof (e : Int × Value) : Str := match e.2 with | .str x _ => x | _ => Str.empty
def GoodT (w : World) (e : Int × Value) : Prop := ∃ x tk, e.2 = Value.str x tk ∧ e.1 = hashStr w x
/-- the set of texts at a: its members are those of xs, n in number; it can be walked -/
def SetS (w : World) (h : Heap) (a : Addr) (xs : List Str) (n : Nat) : Prop :=
  ∃ o es ep t, h.get? a = some o ∧ o.ExactSet ∧ o.data = .set es ep t ∧ (∀ e ∈ es.toList, GoodT w e) ∧ (es.toList.map sof).Nodup ∧ (∀ x, x ∈ xs ↔ x ∈ es.toList.map sof) ∧
    es.size < scanBound ∧ t.fits es.size = true ∧ es.size = n ∧ Ris t.place.toList ∧ (w.params.followText "set-order" = true ∨ t.led = true)
section
variable {P : Program} {w : World} {h h' : Heap} {a : Addr} {xs : List Str} {n : Nat}
theorem SetS.at (R : SetS w h a xs n) (k : ∀ o, h.get? a = some o → h'.get? a = some o) : SetS w h' a xs n := by
  obtain ⟨o, es, ep, t, ho, r⟩ := R
  exact ⟨o, es, ep, t, k o ho, r⟩
theorem SetS.congr {ys : List Str} (R : SetS w h a xs n) (e : ∀ x, x ∈ xs ↔ x ∈ ys) : SetS w h a ys n := by
  obtain ⟨o, es, ep, t, ho, a1, a2, a3, a4, hm, r⟩ := R
  exact ⟨o, es, ep, t, ho, a1, a2, a3, a4, fun x => (e x).symm.trans (hm x), r⟩
theorem isStr_self (x : Str) (t : Tok) : Value.isStrOf x (.str x t) = true := by
  show (x == x) = true
  exact beq_self_eq_true x
theorem goodT_elems {l : List (Int × Value)} (g : ∀ e ∈ l, GoodT w e) : ElemsOf (PySem.strKind P w) l := fun e he => by
  obtain ⟨x, tk, h1, h2⟩ := g e he
  refine ⟨⟨x, ?_, h2⟩, by rw [h1] <;> rfl⟩
  rw [h1]
  exact isStr_self x tk
theorem goodT_is {e : Int × Value} (g : GoodT w e) (x : Str) : (PySem.strKind P w).is x e.2 = true ↔ sof e = x := by
  obtain ⟨y, tk, h1, _⟩ := g
  unfold sof
  rw [h1]
  show ((y == x) = true) ↔ y = x
  exact beq_iff_eq
theorem goodT_mem {l : List (Int × Value)} (g : ∀ e ∈ l, GoodT w e) (x : Str) : x ∈ l.map sof ↔ ∃ e ∈ l, (PySem.strKind P w).is x e.2 = true := by
  rw [List.mem_map]
  exact ⟨fun ⟨e, he, q⟩ => ⟨e, he, (goodT_is (g e he) x).2 q⟩, fun ⟨e, he, q⟩ => ⟨e, he, (goodT_is (g e he) x).1 q⟩⟩
end
section
variable {P : Program} {w : World} {A : Around} {E : Value → Shared → Prop} {s : Shared} {a : Addr} {xs : List Str} {n : Nat}
theorem setS_tail {g : Bool → Sem Unit} (hg : ∀ (b : Bool) (s₁ : Shared) (Q' : Unit → Shared → Prop), Q' () s₁ → wpAny (model P w) A (g b) Q' E s₁)
    {o : Obj} {es : Array (Int × Value)} {ep : Nat} {t : SetTable} (ho : s.heap.get? a = some o) (hex : o.ExactSet) (hd : o.data = .set es ep t) {es1 : Array (Int × Value)} {t2 : SetTable} {ys : List Str} (g1 : ∀ e ∈ es1.toList, GoodT w e) (nd1 : (es1.toList.map sof).Nodup)
    (m1 : ∀ k, k ∈ ys ↔ k ∈ es1.toList.map sof) (hb1 : es1.size < scanBound) (hf2 : t2.fits es1.size = true) (hr : Ris t2.place.toList) (hl : w.params.followText "set-order" = true ∨ t2.led = true) {wasDummy : Bool} {R : Option Bool → Shared → Prop}
    (hR : ∀ h', Heap.SameBut a s.heap h' → SetS w h' a ys es1.size → R (some true) { s with heap := h' }) :
    wpAny (model P w) A (do
        storeSet a es1 t2
        if (!wasDummy && t2.tooFull) = true then do
            g (relayAll t2 es1 (SetTable.grown es1.size)).2.2
            storeSet a (relayAll t2 es1 (SetTable.grown es1.size)).1 (relayAll t2 es1 (SetTable.grown es1.size)).2.1
            pure (some true)
          else pure (some true)) R E s := by
  refine wpAny_bind (wpAny_storeSet_of ho hd ?_ (fits_of_scanBound hb1))
  have ho1 := store_at (es' := es1) (t' := t2) ho hd
  have sb1 := Heap.SameBut.update s.heap a (Obj.putSet es1 t2)
  split
  · have c1 := relayAll_perm t2 es1 (SetTable.grown es1.size)
    have c2 := relayAll_fits t2 es1 (SetTable.grown es1.size)
    have c3 := relayAll_ris t2 es1 (SetTable.grown es1.size)
    have c4 := relayAll_led t2 es1 (SetTable.grown es1.size)
    generalize relayAll t2 es1 (SetTable.grown es1.size) = Z at c1 c2 c3 c4 ⊢
    obtain ⟨es2, t3, gave⟩ := Z
    dsimp only at c1 c2 c3 c4 ⊢
    have hsz : es2.size = es1.size := by rw [← Array.length_toList, c1.length_eq, Array.length_toList]
    have hb2 : es2.size < scanBound := by rw [hsz]; exact hb1
    refine wpAny_bind (hg _ _ _ (wpAny_bind (wpAny_storeSet_of ho1 rfl ?_ (fits_of_scanBound hb2))))
    refine wpAny_pure (hR _ (sb1.trans (Heap.SameBut.update _ a _)) ⟨_, es2, _, t3, store_at (es' := es2) (t' := t3) ho1 rfl, hex, rfl, fun e he => g1 e (c1.mem_iff.mp he), (c1.map sof).nodup_iff.mpr nd1, fun k => (m1 k).trans (c1.map sof).mem_iff.symm, hb2, c2, hsz, c3, hl.imp id fun z => by rw [c4]; exact z⟩)
  · exact wpAny_pure (hR _ sb1 ⟨_, es1, _, t2, ho1, hex, rfl, g1, nd1, m1, hb1, hf2, rfl, hr, hl⟩)
theorem setS_hashed {k : Str} {tk : Tok} {Q : Bool → Shared → Prop} (R : SetS w s.heap a xs n) (room : n + 1 < scanBound)
    (hQ : ∀ h' b m, Heap.SameBut a s.heap h' → m ≤ n + 1 → SetS w h' a (k :: xs) m → Q b { s with heap := h' }) : wpAny (model P w) A (setAddHashed a (.str k tk) ((PySem.strKind P w).hash k)) Q E s := by
  obtain ⟨o, es, ep, t, ho, hex, hd, g, nd, hm, hb, hf, hn, hr, hl⟩ := R
  have hkey : (PySem.strKind P w).is k (.str k tk) = true := isStr_self k tk
  have hsc : (Value.str k tk).scannable = true := rfl
  have hel : ElemsOf (PySem.strKind P w) es.toList := goodT_elems g
  unfold setAddHashed setAddHashedIn
  refine wpAny_holding (wpAny_bind (wpAny_setState_of ho hd hf ?_))
  dsimp only
  rw [byScan_of hsc hb hel]
  simp only [↓reduceIte]
  unfold setAddByScan
  refine wpAny_bind (wpAny_bind (wpAny_rule (wpAny_bind (wpAny_setScan_of hkey ho hd hf hel ?_))))
  cases hfi : List.findIdx? (fun e => (PySem.strKind P w).is k e.2) es.toList with
  | some j =>
    dsimp only
    obtain ⟨hj, pj, _⟩ := List.findIdx?_eq_some_iff_getElem.mp hfi
    have hk : k ∈ xs := (hm k).2 ((goodT_mem (P := P) (w := w) g k).2 ⟨es.toList[j], List.getElem_mem hj, pj⟩)
    exact wpAny_pure (wpAny_pure (hQ s.heap _ n (Heap.SameBut.refl a s.heap) (Nat.le_succ _) ⟨o, es, ep, t, ho, hex, hd, g, nd, fun i => by
      rw [← hm i, List.mem_cons]
      exact ⟨fun z => z.elim (fun e => e ▸ hk) id, .inr⟩, hb, hf, hn, hr, hl⟩))
  | none =>
    dsimp only
    have hnk : k ∉ es.toList.map sof := fun z => by
      obtain ⟨e, he, q⟩ := (goodT_mem (P := P) (w := w) g k).1 z
      have c := List.findIdx?_eq_none_iff.mp hfi e he
      rw [q] at c; cases c
    have hgw : ∀ (b : Bool) {s₁ : Shared} {Q' : Unit → Shared → Prop}, Q' () s₁ → wpAny (model P w) A (match b with | true => rule "set.scan.the-table-gave-way" | false => pure ()) Q' E s₁ := fun b s₁ Q' q => by cases b <;> first | exact wpAny_pure q | exact wpAny_rule q
    have p0 := layNew_perm t es ((PySem.strKind P w).hash k) (.str k tk)
    have p1 := layNew_fits t es ((PySem.strKind P w).hash k) (.str k tk)
    have p2 := layNew_ris t es ((PySem.strKind P w).hash k) (.str k tk) hr
    have p3 := layNew_led t es ((PySem.strKind P w).hash k) (.str k tk)
    generalize layNew t es ((PySem.strKind P w).hash k) (.str k tk) = Z at p0 p1 p2 p3 ⊢
    obtain ⟨es1, t1, wasDummy, gave⟩ := Z
    dsimp only at p0 p1 p2 p3 ⊢
    rw [Array.toList_push] at p0
    have pc : es1.toList.Perm (((PySem.strKind P w).hash k, Value.str k tk) :: es.toList) := p0.trans (List.perm_append_singleton _ _)
    have pk : (es1.toList.map sof).Perm (k :: es.toList.map sof) := pc.map sof
    have g1 : ∀ e ∈ es1.toList, GoodT w e := fun e he => by
      rcases List.mem_cons.mp (pc.mem_iff.mp he) with z | z
      · rw [z]; exact ⟨k, tk, rfl, rfl⟩
      · exact g e z
    have nd1 : (es1.toList.map sof).Nodup := pk.nodup_iff.mpr (List.nodup_cons.mpr ⟨hnk, nd⟩)
    have m1 : ∀ i, i ∈ k :: xs ↔ i ∈ es1.toList.map sof := fun i => by rw [pk.mem_iff, List.mem_cons, List.mem_cons, hm i]
    have hsz : es1.size = n + 1 := by rw [← Array.length_toList, pc.length_eq, List.length_cons, Array.length_toList, hn]
    have hb1 : es1.size < scanBound := by rw [hsz]; exact room
    have hled : w.params.followText "set-order" = true ∨ t1.led = true := hl.imp id fun z => by rw [p3]; exact z
    have fin : ∀ h', Heap.SameBut a s.heap h' → SetS w h' a (k :: xs) es1.size → Q true { s with heap := h' } := fun h' sb r => hQ h' true _ sb (by omega) r
    refine wpAny_bind (hgw _ ?_)
    split
    · refine wpAny_bind ?_
      rw [hashByValue_scannable 8 hsc]
      refine wpAny_pure (setS_tail ?_ ho hex hd g1 nd1 m1 hb1 ?_ ?_ ?_ ?_)
      · intro b s₁ Q' q; cases b <;> first | exact wpAny_pure q | exact wpAny_rule q
      · first | (split <;> first | exact p1 | exact SetTable.fits_plain_off p1) | exact p1
      · first | (split <;> exact p2) | exact p2
      · first | (split <;> exact hled) | exact hled
      · intro h' sb r; dsimp only; exact wpAny_pure (fin h' sb r)
    · refine wpAny_bind (wpAny_pure ?_)
      simp only [↓reduceIte]
      refine setS_tail ?_ ho hex hd g1 nd1 m1 hb1 p1 p2 hled ?_
      · intro b s₁ Q' q; cases b <;> first | exact wpAny_pure q | exact wpAny_rule q
      · intro h' sb r; dsimp only; exact wpAny_pure (fin h' sb r)
theorem setS_zero {h : Heap} (ho : h.get? a = some (emptySet w)) : SetS w h a [] 0 :=
  ⟨_, #[], 0, _, ho, ⟨rfl, rfl, rfl⟩, rfl, (fun e he => by simp at he), (by simp), (fun k => by simp), (by decide), (by rfl), rfl, List.Pairwise.nil, by
    show _ ∨ (!w.params.followText "set-order") = true
    cases w.params.followText "set-order"
    · exact .inr rfl
    · exact .inl rfl⟩
/-- the loop that puts what an iterator gives into a set: J tells what stands at S behind i items -/
theorem setLoop {I : Addr} {fp wr : List Addr} {G : Array GenState → Array GenState → Prop} {n : Nat} {Pv : Nat → Value → Prop} {St : Nat → Shared → Prop} {R : Result → Shared → Prop} (W : WalksS P w A.in1 I fp wr G n Pv St) (S : Addr) (hSf : S ∉ fp) (h0 : Heap) (hS0 : h0.objs.size ≤ S) (hwr : ∀ b ∈ wr, h0.objs.size ≤ b)
    (J : Nat → Heap → Prop) (stays : ∀ i h1 h2, J i h1 → (∀ o, h1.get? S = some o → h2.get? S = some o) → (∀ b o, h0.get? b = some o → h2.get? b = some o) → J i h2)
    (step : ∀ (A' : Around) (i : Nat) (v : Value) (s : Shared) (Q : Bool → Shared → Prop) (E : Value → Shared → Prop), A'.handled = A.in1.handled → A'.units = A.in1.units → i < n → Pv i v → J i s.heap → (∀ b o, h0.get? b = some o → s.heap.get? b = some o) → (∀ (h' : Heap) (tk : Nat) (b : Bool), s.toks ≤ tk → (∀ b o, b ≠ S → s.heap.get? b = some o → h'.get? b = some o) → J (i + 1) h' → Q b { s with heap := h', toks := tk }) → wpAny (model P w) A' (setAdd S v) Q E s) :
    ∀ (k i : Nat) (s : Shared), n - i = k → i ≤ n → St i s → (∀ b o, h0.get? b = some o → s.heap.get? b = some o) → J i s.heap → (∀ s', Moved (S :: wr) G s s' → (∀ b o, h0.get? b = some o → s'.heap.get? b = some o) → J n s'.heap → R (.ok (.ret .none)) s') →
      codeAny (model P w) A (.builtin "set.update.loop" ⟨[.ref S, .ref I], []⟩) R s := by
  have hSw : S ∉ wr := fun h => hSf (W.sub _ h)
  have hsub : ∀ b ∈ wr, b ∈ S :: wr := fun b hb => List.mem_cons_of_mem _ hb
  have low : ∀ b o, h0.get? b = some o → b ∉ wr ∧ b ≠ S := fun b o e => by
    have := Heap.lt_size e
    exact ⟨fun hb => absurd (Nat.lt_of_lt_of_le this (hwr b hb)) (Nat.lt_irrefl _), fun z => absurd (Nat.lt_of_lt_of_le this (by rw [z]; exact hS0)) (Nat.lt_irrefl _)⟩
  intro k
  induction k with
  | zero =>
    intro i s hk' hi hst hkp hJ hR
    have hin : i = n := by omega
    subst hin
    refine codeAny_builtin F.entry_set_update_loop ?_
    rw [Around.under_plainId F.plain_set_update_loop _]
    show wpAny _ A.in1 (pyNext (.ref I) >>= _) _ _ s
    refine wpAny_bind (W.done s _ _ hst fun s' hm => ?_)
    have hkp' : ∀ b o, h0.get? b = some o → s'.heap.get? b = some o := fun b o e => hm.heap b o (low b o e).1 (hkp b o e)
    show wpAny _ A.in1 (ret Value.none) _ _ s'
    exact wpAny_pure (hR s' (hm.mono hsub) hkp' (stays _ _ _ hJ (fun o e => hm.heap S o hSw e) hkp'))
  | succ k ih =>
    intro i s hk' hi hst hkp hJ hR
    have hlt : i < n := by omega
    refine codeAny_builtin F.entry_set_update_loop ?_
    rw [Around.under_plainId F.plain_set_update_loop _]
    show wpAny _ A.in1 (pyNext (.ref I) >>= _) _ _ s
    refine wpAny_bind (W.item i s _ _ hlt hst fun v s' hP hst' hm => ?_)
    have hkp' : ∀ b o, h0.get? b = some o → s'.heap.get? b = some o := fun b o e => hm.heap b o (low b o e).1 (hkp b o e)
    have hJ' : J i s'.heap := stays _ _ _ hJ (fun o e => hm.heap S o hSw e) hkp'
    show wpAny _ A.in1 (holding [v] (setAdd S v) >>= _) _ _ s'
    refine wpAny_bind (wpAny_holding (step _ i v s' _ _ rfl rfl hlt hP hJ' hkp' fun (h' : Heap) (tk : Nat) (bb : Bool) htk hsb hJ2 => ?_))
    have hkp2 : ∀ b o, h0.get? b = some o → h'.get? b = some o := fun b o e => hsb b o (low b o e).2 (hkp' b o e)
    refine wpAny_pure ⟨plainId_quiet F.plain_set_update_loop _, ih (i + 1) _ (by omega) hlt (W.frame _ s' _ _ hst' htk fun b hb o e => ?_) hkp2 hJ2 fun s'' hm'' hkp'' hJ'' => ?_⟩
    · exact hsb b o (fun h : b = S => hSf (by rw [← h]; exact hb)) e
    · refine hR s'' (Moved.trans W.gtrans ((hm.mono hsub).then_heap htk fun b o hb e => ?_) hm'') hkp'' hJ''
      exact hsb b o (fun h : b = S => hb (by rw [h]; exact List.mem_cons_self)) e
set_option maxHeartbeats 8000000 in
theorem call_setL {l : Addr} {items : Array Value} {Q : Value → Shared → Prop} (hh : A.handled = none) (hl : s.heap.IsList l items)
    (J : Nat → Heap → Prop) (stays : ∀ i h1 h2, J i h1 → (∀ o, h1.get? s.heap.objs.size = some o → h2.get? s.heap.objs.size = some o) → (∀ b o, s.heap.get? b = some o → h2.get? b = some o) → J i h2)
    (step : ∀ (A' : Around) (i : Nat) (v : Value) (s1 : Shared) (Q : Bool → Shared → Prop) (E : Value → Shared → Prop), A'.handled = none → A'.units ≤ A.units + 20 → i < items.size → items[i]? = some v → J i s1.heap → (∀ b o, s.heap.get? b = some o → s1.heap.get? b = some o) → (∀ (h' : Heap) (tk : Nat) (b : Bool), s1.toks ≤ tk → (∀ b o, b ≠ s.heap.objs.size → s1.heap.get? b = some o → h'.get? b = some o) → J (i + 1) h' → Q b { s1 with heap := h', toks := tk }) → wpAny (model P w) A' (setAdd s.heap.objs.size v) Q E s1)
    (z0 : ∀ h', h'.get? s.heap.objs.size = some (emptySet w) → (∀ b o, s.heap.get? b = some o → h'.get? b = some o) → J 0 h')
    (h : ∀ (h' : Heap) (tk : Nat), J items.size h' → (∀ b o, s.heap.get? b = some o → h'.get? b = some o) → Q (.ref s.heap.objs.size) { s with heap := h', toks := tk }) :
    wpAny (model P w) A (call (.type "set") [.ref l]) Q E s := by
  obtain ⟨c, tl, hmro⟩ := F.called_set.mro
  have hmade := F.called_set.made
  have hsub := F.called_set.sub
  refine wpAny_call (codeAny_of_tree ?_)
  show wpAny _ _ (callAny (.type "set") _) _ _ _
  refine wpAny_pure ⟨Code.quiet_builtin _ (by decide +kernel), codeAny_builtin F.entry_type_call ?_⟩
  rw [Around.under_plain (weight_type_call_type "set" [.ref l] []) rfl]
  have h1 := F.called_set.notType
  have h2 := F.called_set.canCreate
  have hct := F.typeCall_set_1 (.ref l)
  repeat (any_goals (first | assumption | wp_step))

  refine codeAny_mono (code_set_led1 (.ref l) (E := E) (Q₁ := fun obj s₁ => obj = .ref s.heap.objs.size ∧ s₁ = { s with heap := s.heap.push (emptySet w) }) ⟨rfl, rfl⟩) fun r s₁ hr => ?_
  cases r with
  | error e => exact hr
  | ok fl =>
    cases fl with
    | ret obj =>
      obtain ⟨rfl, rfl⟩ := hr
      have hS : (s.heap.push (emptySet w)).get? s.heap.objs.size = some (emptySet w) := Heap.get?_push_size _ rfl
      have hT : Shared.TypeIs { s with heap := s.heap.push (emptySet w) } (.ref s.heap.objs.size) "set" := ⟨_, hS, rfl⟩
      have hli := F.called_set.init.lookup
      have hbi := F.called_set.init.bind (.ref s.heap.objs.size)
      repeat (any_goals (first | assumption | wp_step))

      refine codeAny_mono (codeAny_call_builtin (R := wants (fun r s₂ => r = .none ∧ ∃ h' tk, s₂ = { s with heap := h', toks := tk } ∧ J items.size h' ∧
          (∀ b o, s.heap.get? b = some o → h'.get? b = some o)) E) F.called_set.init.plain F.entry_set_init (check_set_init_1 hT ?_)) fun r₂ s₂ hr₂ => ?_
      · obtain ⟨ol, hol, hcl, nl, hdl⟩ := hl
        obtain ⟨ocls, odict, odata, oslots⟩ := ol
        simp only at hcl hdl
        subst hcl; subst hdl
        have hol' : (s.heap.push (emptySet w)).get? l = some { cls := .type "list", dict := odict, data := .seq items nl, slots := oslots } := Heap.get?_push_of_some _ hol
        have hsls := F.sub_list_set
        have hslf := F.sub_list_frozenset
        have hne : (Value.type "list" == Value.type "dict") = false := by decide
        have hl1 : (s.heap.push (emptySet w)).IsList l items := ⟨_, hol', rfl, nl, rfl⟩
        unfold Builtin.«set.__init__» noKeywords Builtin.Frozenset.updateFrom
        generalize hPI : pyIter = PI
        wp_walk
        subst hPI

        refine wpAny_pyIter_list hl1 ?_
        refine wpAny_bind (wpAny_runValue ?_)
        have hlS : l < s.heap.objs.size := Heap.lt_size hol
        have hh3 : A.in1.in1.in1.handled = none := by simp [hh]
        have hz1 : (s.heap.push (emptySet w)).objs.size = s.heap.objs.size + 1 := Heap.size_push ..
        have hneI : l ≠ (s.heap.push (emptySet w)).objs.size := by
          rw [Heap.size_push]; exact Nat.ne_of_lt (Nat.lt_succ_of_lt hlS)
        have hSf : s.heap.objs.size ∉ [(s.heap.push (emptySet w)).objs.size, l] := by
          rw [Heap.size_push]; simp only [List.mem_cons, List.mem_singleton, List.not_mem_nil, or_false, not_or]
          exact ⟨Nat.ne_of_lt (Nat.lt_succ_self _), Nat.ne_of_gt hlS⟩
        refine setLoop ((Walks.list hh3 _ l hneI items).toS) s.heap.objs.size
          hSf s.heap (Nat.le_refl _) (fun b hb => by rw [List.mem_singleton.mp hb, hz1]; exact Nat.le_succ _) J stays (fun A' i v s1 Q E hA hU hi hv hJ hk hq => step A' i v s1 Q E (hA.trans (by simp [hh])) (by simp only [Around.in1_units] at hU; omega) hi hv hJ hk hq) (items.size - 0) 0 _ (by omega) (Nat.zero_le _)
          ⟨⟨_, Heap.get?_push_size _ rfl, rfl, rfl⟩, (hl1.push _)⟩ (fun b o e => Heap.get?_push_of_some _ (Heap.get?_push_of_some _ e)) (z0 _ (Heap.get?_push_of_some _ hS) (fun b o e => Heap.get?_push_of_some _ (Heap.get?_push_of_some _ e))) ?hR
        case hR =>
          intro s' hm hk' hJ'
          obtain ⟨h', g2, d', tk', os'⟩ := s'
          have eg : g2 = s.gens := hm.gens
          have ed : d' = s.drawn := hm.drawn
          have eo : os' = s.os := hm.os
          subst eg; subst ed; subst eo
          show wpAny _ _ _ _ _ _
          refine wpAny_pure ?_
          show wpAny _ _ (ret Value.none) _ _ _
          exact wpAny_pure ⟨rfl, h', tk', rfl, hJ', hk'⟩
      · cases r₂ with
        | error e => exact hr₂
        | ok fl₂ =>
          cases fl₂ with
          | ret r =>
            obtain ⟨rfl, h', tk, rfl, hS', hk'⟩ := hr₂
            repeat (any_goals (first | assumption | wp_step))
            exact h _ _ hS' hk'
          | _ => exact hr₂.elim
    | _ => exact hr.elim
set_option maxHeartbeats 8000000 in
theorem call_setT {l : Addr} {items : Array Value} {Q : Value → Shared → Prop} (hh : A.handled = none) (hl : s.heap.IsTuple l items)
    (J : Nat → Heap → Prop) (stays : ∀ i h1 h2, J i h1 → (∀ o, h1.get? s.heap.objs.size = some o → h2.get? s.heap.objs.size = some o) → (∀ b o, s.heap.get? b = some o → h2.get? b = some o) → J i h2)
    (step : ∀ (A' : Around) (i : Nat) (v : Value) (s1 : Shared) (Q : Bool → Shared → Prop) (E : Value → Shared → Prop), A'.handled = none → A'.units ≤ A.units + 20 → i < items.size → items[i]? = some v → J i s1.heap → (∀ b o, s.heap.get? b = some o → s1.heap.get? b = some o) → (∀ (h' : Heap) (tk : Nat) (b : Bool), s1.toks ≤ tk → (∀ b o, b ≠ s.heap.objs.size → s1.heap.get? b = some o → h'.get? b = some o) → J (i + 1) h' → Q b { s1 with heap := h', toks := tk }) → wpAny (model P w) A' (setAdd s.heap.objs.size v) Q E s1)
    (z0 : ∀ h', h'.get? s.heap.objs.size = some (emptySet w) → (∀ b o, s.heap.get? b = some o → h'.get? b = some o) → J 0 h')
    (h : ∀ (h' : Heap) (tk : Nat), J items.size h' → (∀ b o, s.heap.get? b = some o → h'.get? b = some o) → Q (.ref s.heap.objs.size) { s with heap := h', toks := tk }) :
    wpAny (model P w) A (call (.type "set") [.ref l]) Q E s := by
  obtain ⟨c, tl, hmro⟩ := F.called_set.mro
  have hmade := F.called_set.made
  have hsub := F.called_set.sub
  refine wpAny_call (codeAny_of_tree ?_)
  show wpAny _ _ (callAny (.type "set") _) _ _ _
  refine wpAny_pure ⟨Code.quiet_builtin _ (by decide +kernel), codeAny_builtin F.entry_type_call ?_⟩
  rw [Around.under_plain (weight_type_call_type "set" [.ref l] []) rfl]
  have h1 := F.called_set.notType
  have h2 := F.called_set.canCreate
  have hct := F.typeCall_set_1 (.ref l)
  repeat (any_goals (first | assumption | wp_step))

  refine codeAny_mono (code_set_led1 (.ref l) (E := E) (Q₁ := fun obj s₁ => obj = .ref s.heap.objs.size ∧ s₁ = { s with heap := s.heap.push (emptySet w) }) ⟨rfl, rfl⟩) fun r s₁ hr => ?_
  cases r with
  | error e => exact hr
  | ok fl =>
    cases fl with
    | ret obj =>
      obtain ⟨rfl, rfl⟩ := hr
      have hS : (s.heap.push (emptySet w)).get? s.heap.objs.size = some (emptySet w) := Heap.get?_push_size _ rfl
      have hT : Shared.TypeIs { s with heap := s.heap.push (emptySet w) } (.ref s.heap.objs.size) "set" := ⟨_, hS, rfl⟩
      have hli := F.called_set.init.lookup
      have hbi := F.called_set.init.bind (.ref s.heap.objs.size)
      repeat (any_goals (first | assumption | wp_step))

      refine codeAny_mono (codeAny_call_builtin (R := wants (fun r s₂ => r = .none ∧ ∃ h' tk, s₂ = { s with heap := h', toks := tk } ∧ J items.size h' ∧
          (∀ b o, s.heap.get? b = some o → h'.get? b = some o)) E) F.called_set.init.plain F.entry_set_init (check_set_init_1 hT ?_)) fun r₂ s₂ hr₂ => ?_
      · obtain ⟨ol, hol, hcl, nl, hdl⟩ := hl
        obtain ⟨ocls, odict, odata, oslots⟩ := ol
        simp only at hcl hdl
        subst hcl; subst hdl
        have hol' : (s.heap.push (emptySet w)).get? l = some { cls := .type "tuple", dict := odict, data := .seq items nl, slots := oslots } := Heap.get?_push_of_some _ hol
        have hsls := F.sub_tuple_set
        have hslf := F.sub_tuple_frozenset
        have hne : (Value.type "tuple" == Value.type "dict") = false := by decide
        have hl1 : (s.heap.push (emptySet w)).IsTuple l items := ⟨_, hol', rfl, nl, rfl⟩
        unfold Builtin.«set.__init__» noKeywords Builtin.Frozenset.updateFrom
        generalize hPI : pyIter = PI
        wp_walk
        subst hPI

        refine wpAny_pyIter_tuple hl1 ?_
        refine wpAny_bind (wpAny_runValue ?_)
        have hlS : l < s.heap.objs.size := Heap.lt_size hol
        have hh3 : A.in1.in1.in1.handled = none := by simp [hh]
        have hz1 : (s.heap.push (emptySet w)).objs.size = s.heap.objs.size + 1 := Heap.size_push ..
        have hneI : l ≠ (s.heap.push (emptySet w)).objs.size := by
          rw [Heap.size_push]; exact Nat.ne_of_lt (Nat.lt_succ_of_lt hlS)
        have hSf : s.heap.objs.size ∉ [(s.heap.push (emptySet w)).objs.size, l] := by
          rw [Heap.size_push]; simp only [List.mem_cons, List.mem_singleton, List.not_mem_nil, or_false, not_or]
          exact ⟨Nat.ne_of_lt (Nat.lt_succ_self _), Nat.ne_of_gt hlS⟩
        refine setLoop ((Walks.tuple hh3 _ l hneI items).toS) s.heap.objs.size
          hSf s.heap (Nat.le_refl _) (fun b hb => by rw [List.mem_singleton.mp hb, hz1]; exact Nat.le_succ _) J stays (fun A' i v s1 Q E hA hU hi hv hJ hk hq => step A' i v s1 Q E (hA.trans (by simp [hh])) (by simp only [Around.in1_units] at hU; omega) hi hv hJ hk hq) (items.size - 0) 0 _ (by omega) (Nat.zero_le _)
          ⟨⟨_, Heap.get?_push_size _ rfl, rfl, rfl⟩, (hl1.push _)⟩ (fun b o e => Heap.get?_push_of_some _ (Heap.get?_push_of_some _ e)) (z0 _ (Heap.get?_push_of_some _ hS) (fun b o e => Heap.get?_push_of_some _ (Heap.get?_push_of_some _ e))) ?hR
        case hR =>
          intro s' hm hk' hJ'
          obtain ⟨h', g2, d', tk', os'⟩ := s'
          have eg : g2 = s.gens := hm.gens
          have ed : d' = s.drawn := hm.drawn
          have eo : os' = s.os := hm.os
          subst eg; subst ed; subst eo
          show wpAny _ _ _ _ _ _
          refine wpAny_pure ?_
          show wpAny _ _ (ret Value.none) _ _ _
          exact wpAny_pure ⟨rfl, h', tk', rfl, hJ', hk'⟩
      · cases r₂ with
        | error e => exact hr₂
        | ok fl₂ =>
          cases fl₂ with
          | ret r =>
            obtain ⟨rfl, h', tk, rfl, hS', hk'⟩ := hr₂
            repeat (any_goals (first | assumption | wp_step))
            exact h _ _ hS' hk'
          | _ => exact hr₂.elim
    | _ => exact hr.elim
end

end K45
end
section
set_option maxRecDepth 100000
set_option maxHeartbeats 4000000
/-! sorted(set(xs)), len(set(xs)) of texts; sorted(set(xs)), xs no or one tuple of texts -/
namespace K45
open PySem PySem.Spec PyProof.Rows L2
/-- a set that can be walked, its members the values vs -/
def SetV (w : World) (h : Heap) (a : Addr) (vs : List Value) : Prop :=
  ∃ o es ep t, h.get? a = some o ∧ o.ExactSet ∧ o.data = .set es ep t ∧ es.toList.map (·.2) = vs ∧ es.size < scanBound ∧ t.fits es.size = true ∧ Ris t.place.toList ∧ (w.params.followText "set-order" = true ∨ t.led = true)
def vof (v : Value) : Str := match v with | .str x _ => x | _ => Str.empty
theorem rising_up : ∀ (l : List Str) (p : Str), risingS p l = true → (p :: l).Pairwise fun a b => sltb b a = false
  | [], p, _ => by simp
  | x :: r, p, h => by
    simp only [risingS, Bool.and_eq_true, Bool.not_eq_true'] at h
    have ih := rising_up r x h.2
    have h1 : sltb x p = false := by
      unfold sltb
      rw [← ltCps_eq]
      exact h.1
    refine List.pairwise_cons.mpr ⟨fun y hy => ?_, ih⟩
    rcases List.mem_cons.mp hy with e | hy
    · rw [e]; exact h1
    · have h2 := (List.pairwise_cons.mp ih).1 y hy
      rcases hh : sltb y p with _ | _
      · rfl
      · exfalso
        rcases h3 : sltb p x with _ | _
        · have e := sltb_ord.tri x p h1 h3
          rw [← e] at hh
          rw [hh] at h2; cases h2
        · have := sltb_ord.tra y p x hh h3
          rw [this] at h2; cases h2
theorem sorted_up {l : List Str} (h : sortedS l = true) (nd : l.Nodup) : Up sltb l := by
  cases l with
  | nil => exact List.Pairwise.nil
  | cons x r =>
    have h1 := rising_up r x h
    refine List.Pairwise.imp_of_mem (fun {a b} ha hb hab => ?_) (List.Pairwise.and h1 nd)
    rcases h3 : sltb a b with _ | _
    · exact absurd (sltb_ord.tri a b h3 hab.1) hab.2
    · rfl
section
variable {P : Program} {w : World} {A : Around} {E : Value → Shared → Prop} {s : Shared}
theorem sorted_setV {a : Addr} {vs0 : List Value} {Q : Value → Shared → Prop} {G : Array Value → Prop} (R : SetV w s.heap a vs0) (hh : A.handled = none) (h64 : vs0.length < 64)
    (sort : ∀ (A' : Around) (s1 : Shared) (L : Addr) (vs : List Value) (Q' : PySem.Fin → Shared → Prop) (E' : Value → Shared → Prop), vs.Perm vs0 → s1.heap.get? L = some (seqObj "list" vs.toArray 0) →
      (∀ out, G out → Q' (.done (.ret .none)) { s1 with heap := sortedHeap s1.heap L vs out }) → wpAny (model P w) A' (Builtin.«list.sort» ⟨[.ref L], []⟩) Q' E' s1)
    (hQ : ∀ s' p (out : Array Value) (c : Nat), (∀ b o, s.heap.get? b = some o → s'.heap.get? b = some o) → s'.gens = s.gens → s'.os = s.os → s.heap.objs.size ≤ p → s'.heap.get? p = some (seqObj "list" out c) → G out → Q (.ref p) s') :
    wpAny (model P w) A (call (.builtin "sorted") [.ref a]) Q E s := by
  obtain ⟨o, es, ep, t, ho, hex, hd, hvs, hb, hf, hr, hl⟩ := R
  refine Calls.call_function_entry kind_sorted plain_sorted entry_sorted (args_sorted1 _) ?_
  unfold Builtin.«sorted»
  refine wpAny_bind (m := checkCount "sorted" 1 1 _) (wpAny_pure ?_)
  refine wpAny_bind (collect_set (A := A.in1) hh ⟨o, ho, hex.1, hd⟩ hf hb hr hl fun s1 vs k1 hz g1 o1 pm => ?_)
  rw [hvs] at pm
  have hvl : vs.length < 64 := by rw [pm.length_eq]; exact h64
  refine wpAny_bind (wpAny_newList ?_ (by rw [sizeLine_eq]; omega))
  have hoL : (s1.heap.push (seqObj "list" vs.toArray 0)).get? s1.heap.objs.size = some (seqObj "list" vs.toArray 0) := Heap.get?_push_size _ rfl
  refine wpAny_bind (wpAny_holding (wpAny_call_entry slot_list_sort ⟨_, hoL, rfl⟩ entry_list_sort (sort _ { s1 with heap := s1.heap.push (seqObj "list" vs.toArray 0) } _ vs _ _ pm hoL fun out hG => ⟨_, rfl, ?_⟩) (args_list_sort _)))
  obtain ⟨c, hc⟩ := sortedHeap_at (vs := vs) (out := out) hoL
  refine wpAny_pure ⟨_, rfl, hQ _ s1.heap.objs.size out c (fun b u e => ?_) g1 o1 hz hc hG⟩
  have q := k1 b u e
  have hlt := Heap.lt_size q
  show (sortedHeap (s1.heap.push (seqObj "list" vs.toArray 0)) s1.heap.objs.size vs out).get? b = some u
  rw [sortedHeap_old (Nat.ne_of_lt hlt) (by rw [size_push']; exact Nat.lt_succ_of_lt hlt)]
  exact Heap.get?_push_of_some _ q
theorem strs_vof : ∀ (vs : List Value), (∀ v ∈ vs, ∃ x t, v = Value.str x t) → StrsAre vs (vs.map vof)
  | [], _ => .nil
  | v :: vs, h => by
    obtain ⟨x, t, rfl⟩ := h v List.mem_cons_self
    exact .cons x t (strs_vof vs fun u hu => h u (List.mem_cons_of_mem _ hu))
theorem sorted_setS {a : Addr} {xs : List Str} {n : Nat} {Q : Value → Shared → Prop} (R : SetS w s.heap a xs n) (hh : A.handled = none) (h64 : n < 64)
    (hQ : ∀ s' p (out : Array Value) (c : Nat) (ys : List Str), (∀ b o, s.heap.get? b = some o → s'.heap.get? b = some o) → s'.gens = s.gens → s'.os = s.os → s.heap.objs.size ≤ p → s'.heap.get? p = some (seqObj "list" out c) →
      StrsAre out.toList ys → Up sltb ys → (∀ x, x ∈ ys ↔ x ∈ xs) → ys.length = n → Q (.ref p) s') :
    wpAny (model P w) A (call (.builtin "sorted") [.ref a]) Q E s := by
  obtain ⟨o, es, ep, t, ho, hex, hd, g, nd, hm, hb, hf, hn, hr, hl⟩ := R
  have hlen : (es.toList.map (·.2)).length = n := by rw [List.length_map, Array.length_toList]; exact hn
  have hst : ∀ v ∈ es.toList.map (·.2), ∃ x t, v = Value.str x t := fun v hv => by
    obtain ⟨e, he, q⟩ := List.mem_map.mp hv
    obtain ⟨x, tk, h1, _⟩ := g e he
    exact ⟨x, tk, by rw [← q]; exact h1⟩
  have hsof : (es.toList.map (·.2)).map vof = es.toList.map sof := by rw [List.map_map]; rfl
  refine sorted_setV (G := fun out => ∃ ys, StrsAre out.toList ys ∧ sortedS ys = true ∧ ys.Perm (es.toList.map sof)) ⟨o, es, ep, t, ho, hex, hd, rfl, hb, hf, hr, hl⟩ hh (by rw [hlen]; exact h64) (fun A' s1 L vs Q' E' pm hoL hq => ?_) fun s' p out c k g2 o2 hp hc ⟨ys, a1, a2, a3⟩ => ?_
  · have hS := strs_vof vs fun v hv => hst v (pm.mem_iff.mp hv)
    refine list_sort_treeK strKind_oneLt hoL hS.keysOf (fun v₁ v₂ rest e => keyKind_strs (by rw [← e]; exact hS)) (by rw [pm.length_eq, hlen]; exact h64) fun st' hp hs => ?_
    obtain ⟨ys, g1, g2, g3⟩ := sorted_out_str hS hp hs
    refine hq _ ⟨ys, g1, g3, g2.trans ?_⟩
    rw [← hsof]
    exact pm.map vof
  · refine hQ s' p out c ys k g2 o2 hp hc a1 (sorted_up a2 (a3.nodup_iff.mpr nd)) (fun x => by rw [a3.mem_iff, ← hm x]) ?_
    rw [a3.length_eq, List.length_map, Array.length_toList]; exact hn
/-- the set's members are what has been put in -/
def JS (w : World) (S : Addr) (xs : List Str) (i : Nat) (h : Heap) : Prop := ∃ c, c ≤ i ∧ SetS w h S (xs.take i) c
theorem JS.step {S : Addr} {xs : List Str} {i : Nat} {v : Value} {s1 : Shared} {Q : Bool → Shared → Prop} (hi : i < xs.length) (hx : xs.length + 1 < scanBound) (hv : ∃ t, v = Value.str xs[i] t) (J : JS w S xs i s1.heap)
    (hq : ∀ (h' : Heap) (tk : Nat) (b : Bool), s1.toks ≤ tk → (∀ b o, b ≠ S → s1.heap.get? b = some o → h'.get? b = some o) → JS w S xs (i + 1) h' → Q b { s1 with heap := h', toks := tk }) : wpAny (model P w) A (setAdd S v) Q E s1 := by
  obtain ⟨t, rfl⟩ := hv
  obtain ⟨c, hc, hS⟩ := J
  unfold setAdd
  refine wpAny_holding (wpAny_bind ((PySem.strKind P w).pyHash (k := xs[i]) (isStr_self _ t) ?_))
  refine setS_hashed (s := { s1 with toks := s1.toks + 1 }) hS (by omega) fun h' b m sb hm hS2 => hq h' _ b (Nat.le_succ _) (fun b o hb e => (sb.2 b hb).trans e) ⟨m, by omega, hS2.congr fun x => ?_⟩
  rw [List.take_succ_eq_append_getElem hi, List.mem_append, List.mem_cons, List.mem_singleton]
  exact or_comm
theorem strs_get {us : List Value} {xs : List Str} (h : StrsAre us xs) {i : Nat} {v : Value} (hv : us[i]? = some v) : ∃ (hi : i < xs.length) (t : Tok), v = Value.str xs[i] t := by
  obtain ⟨y, t, e, hy⟩ := StrsAre.item h i v hv
  obtain ⟨h1, h2⟩ := List.getElem?_eq_some_iff.mp hy
  exact ⟨h1, t, by rw [h2]; exact e⟩
theorem JS.whole {S : Addr} {xs : List Str} {h : Heap} {n : Nat} (hn : n = xs.length) (J : JS w S xs n h) : ∃ c, c ≤ xs.length ∧ SetS w h S xs c := by
  obtain ⟨c, hc, r⟩ := J
  rw [hn, List.take_length] at r
  exact ⟨c, by omega, r⟩
theorem set_of_strs {l : Addr} {its : List Value} {xs : List Str} {Q : Value → Shared → Prop} (hh : A.handled = none) (hl : s.heap.IsList l its.toArray ∨ s.heap.IsTuple l its.toArray) (hS : StrsAre its xs) (hx : xs.length + 1 < scanBound)
    (h : ∀ (h' : Heap) (tk c : Nat), c ≤ xs.length → SetS w h' s.heap.objs.size xs c → (∀ b o, s.heap.get? b = some o → h'.get? b = some o) → Q (.ref s.heap.objs.size) { s with heap := h', toks := tk }) :
    wpAny (model P w) A (call (.type "set") [.ref l]) Q E s := by
  have hsz : its.toArray.size = xs.length := by rw [List.size_toArray, StrsAre.len_eq hS]
  have hst : ∀ (i : Nat) (h1 h2 : Heap), JS w s.heap.objs.size xs i h1 → (∀ o, h1.get? s.heap.objs.size = some o → h2.get? s.heap.objs.size = some o) → (∀ b o, s.heap.get? b = some o → h2.get? b = some o) → JS w s.heap.objs.size xs i h2 :=
    fun i h1 h2 ⟨c, hc, r⟩ k _ => ⟨c, hc, r.at k⟩
  have h0 : ∀ h' : Heap, h'.get? s.heap.objs.size = some (emptySet w) → (∀ b o, s.heap.get? b = some o → h'.get? b = some o) → JS w s.heap.objs.size xs 0 h' := fun h' e _ => ⟨0, Nat.le_refl _, setS_zero e⟩
  rcases hl with hl | hl
  · refine call_setL hh hl (JS w s.heap.objs.size xs) hst (fun A' i v s1 Q' E' hA hU hi hv hJ _ hq => ?_) h0 fun h' tk hJ hk => ?_
    · obtain ⟨h1, t, e⟩ := strs_get hS (by simpa using hv)
      exact hJ.step h1 hx ⟨t, e⟩ hq
    · obtain ⟨c, hc, r⟩ := hJ.whole hsz
      exact h h' tk c hc r hk
  · refine call_setT hh hl (JS w s.heap.objs.size xs) hst (fun A' i v s1 Q' E' hA hU hi hv hJ _ hq => ?_) h0 fun h' tk hJ hk => ?_
    · obtain ⟨h1, t, e⟩ := strs_get hS (by simpa using hv)
      exact hJ.step h1 hx ⟨t, e⟩ hq
    · obtain ⟨c, hc, r⟩ := hJ.whole hsz
      exact h h' tk c hc r hk
theorem len_setS {a : Addr} {xs : List Str} {n : Nat} {Q : Value → Shared → Prop} (R : SetS w s.heap a xs n) (h : Q (.int n (s.toks + 1)) { s with toks := s.toks + 1 + 1 }) : wpAny (model P w) A (call (.builtin "len") [.ref a]) Q E s := by
  obtain ⟨o, es, ep, t, ho, hex, hd, g, nd, hm, hb, hf, hn, hr, hl⟩ := R
  refine call_len_set ho hex hd hf ?_ (by rw [hn]; exact h)
  unfold scanBound at hb
  omega
end
/-- sorted(set(xs)): the texts of xs, each once, in order -/
def tSortSet (K : PySem.W.Frag) (ta : TE) : TE := fun σ H Q => ta σ H fun x H1 => ∃ (l : Addr) (xs : List Str), x = V.ref l ∧ SqL K H1 l (xs.map V.str) ∧ xs.length < 60 ∧
  ∀ (ys : List Str) (p : Addr), Up sltb ys → (∀ x, x ∈ ys ↔ x ∈ xs) → H1 p = none → Q (.ref p) (upd H1 p (.lst (ys.map V.str)))
/-- len(set(xs)) -/
def tCountSet (K : PySem.W.Frag) (ta : TE) : TE := fun σ H Q => ta σ H fun x H1 => ∃ (l : Addr) (xs : List Str), x = V.ref l ∧ (SqL K H1 l (xs.map V.str) ∨ SqT K H1 l (xs.map V.str)) ∧ xs.length < 60 ∧
  ∀ n : Nat, (∃ zs : List Str, zs.Nodup ∧ zs.length = n ∧ ∀ x, x ∈ zs ↔ x ∈ xs) → Q (.int n) H1
section
variable {X : Cx} {a : Expr} {ta : TE} {p p2 q pos : Pos}
theorem sortSet (K : PySem.W.Frag) (hc : X.calm = true) (hg : Gl X "sorted") (hm : X.mg "sorted" = none) (hg2 : Gl X "set") (hm2 : X.mg "set" = none) (ha : PE X a ta)
    (na : starEach [a] X.env = (false, eval a X.env) :: starEach [] X.env := by rfl) (hK : X.K = K := by rfl) : PE X (.Call (.Name "sorted" p) [.Call (.Name "set" p2) [a] [] q] [] pos) (tSortSet K ta) := by
  subst hK
  refine ⟨fun pins s σ H Q I h => ?_⟩
  refine Call_ (ld_blt I hg hm PyProof.Rows.boot_sorted ?_)
  refine PyProof.Rows.callWith_builtin1 (PyProof.Rows.args_cons ?_ rfl) rfl rfl
  refine Call_ (ld_blt I hg2 hm2 PyProof.Rows.boot_set ?_)
  refine PyProof.Rows.callWith_type1 (PyProof.Rows.args_cons (thn (ha.run pins s σ H _ I h) fun v s1 ⟨x, H1, I1, r1, q1⟩ => PyProof.Rows.args_nil ?_) na) na rfl
  obtain ⟨l, xs, rfl, hq, h1, q1⟩ := q1
  cases r1
  obtain ⟨its, r, pl, hz⟩ := I1.list hq
  refine set_of_strs (I1.ok.hd hc) (.inl pl.isList) r.strs (by unfold scanBound; omega) fun h' tk c hc' hS hk => ?_
  refine PyProof.Rows.args_nil ?_
  have I2 : Inv X pins σ H1 { s1 with heap := h', toks := tk } := I1.kept fun b o e => hk b o e
  refine sorted_setS (s := { s1 with heap := h', toks := tk }) hS (I1.ok.hd hc) (by omega) fun s' p' out cc ys k g o hp hcc hys up hmem hln => ?_
  have hlen : (ys.map V.str).length ≤ sizeLine := by rw [List.length_map, sizeLine_eq]; omega
  have hn : H1 p' = none := I2.hok.fresh hp
  have J : Inv X pins σ (upd H1 p' (.lst (ys.map V.str))) { s1 with heap := s'.heap, gens := s'.gens, drawn := s'.drawn, toks := s'.toks } :=
    Inv.call (s := { s1 with heap := h', toks := tk }) (ch := []) I2 (Un.laid k hp hn) (I2.hok.laid k hp ⟨hlen, out.toList, cc, vals_of_strs hys, by rw [Array.toArray_toList]; exact hcc⟩) (by rw [g]; exact I1.bare) (fun _ z => nomatch z)
  have e : s' = { s1 with heap := s'.heap, gens := s'.gens, drawn := s'.drawn, toks := s'.toks } := by
    cases s'
    cases s1
    cases o
    rfl
  rw [e]
  exact ⟨.ref p', _, J, rfl, q1 ys p' up hmem hn⟩
theorem countSet (K : PySem.W.Frag) (hc : X.calm = true) (hg : Gl X "len") (hm : X.mg "len" = none) (hg2 : Gl X "set") (hm2 : X.mg "set" = none) (ha : PE X a ta)
    (na : starEach [a] X.env = (false, eval a X.env) :: starEach [] X.env := by rfl) (hK : X.K = K := by rfl) : PE X (.Call (.Name "len" p) [.Call (.Name "set" p2) [a] [] q] [] pos) (tCountSet K ta) := by
  subst hK
  refine ⟨fun pins s σ H Q I h => ?_⟩
  refine Call_ (ld_blt I hg hm PySem.boot_len ?_)
  refine PyProof.Rows.callWith_builtin1 (PyProof.Rows.args_cons ?_ rfl) rfl rfl
  refine Call_ (ld_blt I hg2 hm2 PyProof.Rows.boot_set ?_)
  refine PyProof.Rows.callWith_type1 (PyProof.Rows.args_cons (thn (ha.run pins s σ H _ I h) fun v s1 ⟨x, H1, I1, r1, q1⟩ => PyProof.Rows.args_nil ?_) na) na rfl
  obtain ⟨l, xs, rfl, hq, h1, q1⟩ := q1
  cases r1
  obtain ⟨its, r, pl⟩ : ∃ its, Vals (xs.map V.str) its ∧ (s1.heap.IsList l its.toArray ∨ s1.heap.IsTuple l its.toArray) := by
    rcases hq with hq | hq
    · obtain ⟨its, r, pl, hz⟩ := I1.list hq
      exact ⟨its, r, .inl pl.isList⟩
    · obtain ⟨its, r, pl, hz⟩ := I1.tuple hq
      exact ⟨its, r, .inr pl⟩
  refine set_of_strs (I1.ok.hd hc) pl r.strs (by unfold scanBound; omega) fun h' tk c hc' hS hk => ?_
  refine PyProof.Rows.args_nil ?_
  have I2 : Inv X pins σ H1 { s1 with heap := h', toks := tk } := I1.kept fun b o e => hk b o e
  refine len_setS (s := { s1 with heap := h', toks := tk }) hS ⟨.int c, H1, I2.tok _, ⟨_, rfl⟩, q1 c ?_⟩
  obtain ⟨o, es, ep, t, ho, hex, hd, g, nd, hm, hb, hf, hn, hr, hl⟩ := hS
  exact ⟨es.toList.map sof, nd, by rw [List.length_map, Array.length_toList]; exact hn, fun x => (hm x).symm⟩
end
end K45
end
section
set_option maxRecDepth 100000
set_option maxHeartbeats 4000000
/-! dicts whose keys are tuples of texts, or tuples of tuples of texts: {k: True}, k not in d, d[k] = True -/
namespace K45
open PySem PySem.Spec PyProof.Rows L2
abbrev NK := PySem.NestedKey
def K1 (ss : List Str) : NK := .tup (ss.map .text)
def K2 (ls : List (List Str)) : NK := .tup (ls.map K1)
theorem K1_inj {a b : List Str} (h : K1 a = K1 b) : a = b := by
  unfold K1 at h
  injection h with h
  exact List.map_inj_right (fun x y e => by injection e) |>.mp h
theorem K2_inj {a b : List (List Str)} (h : K2 a = K2 b) : a = b := by
  unfold K2 at h
  injection h with h
  exact List.map_inj_right (fun x y e => K1_inj e) |>.mp h
def HK1 (H : Hp) (ss : List Str) (b : Addr) : Prop := H b = some (.tup (ss.map V.str))
def HK2 (H : Hp) (ls : List (List Str)) (b : Addr) : Prop := ∃ cs : List Addr, H b = some (.tup (cs.map V.ref)) ∧ Paired (HK1 H) ls cs
def IsKey (H : Hp) (k : NK) (b : Addr) : Prop := (∃ ss, k = K1 ss ∧ HK1 H ss b) ∨ ∃ ls, k = K2 ls ∧ HK2 H ls b
/-- tuples stay -/
def TupKeep (H H' : Hp) : Prop := ∀ b xs, H b = some (.tup xs) → H' b = some (.tup xs)
theorem HK1.mono {H H' : Hp} {ss : List Str} {b : Addr} (h : HK1 H ss b) (k : TupKeep H H') : HK1 H' ss b := k _ _ h
theorem HK2.mono {H H' : Hp} {ls : List (List Str)} {b : Addr} (h : HK2 H ls b) (k : TupKeep H H') : HK2 H' ls b := by
  obtain ⟨cs, h1, h2⟩ := h
  exact ⟨cs, k _ _ h1, Paired.mapP h2 fun a c z => z.mono k⟩
theorem IsKey.mono {H H' : Hp} {k : NK} {b : Addr} (h : IsKey H k b) (t : TupKeep H H') : IsKey H' k b := by
  rcases h with ⟨ss, e, h⟩ | ⟨ls, e, h⟩
  · exact .inl ⟨ss, e, h.mono t⟩
  · exact .inr ⟨ls, e, h.mono t⟩
theorem tupKeep_upd {H : Hp} {a : Addr} {o : HO} (h : ∀ xs, H a ≠ some (.tup xs)) : TupKeep H (upd H a o) := fun b xs e => by
  rw [upd_ne (fun z => h xs (by rw [← z]; exact e))]; exact e
def Ents (H : Hp) (xs : List (NK × Addr)) : Prop := ∀ x ∈ xs, IsKey H x.1 x.2
theorem Ents.mono {H H' : Hp} {xs : List (NK × Addr)} (h : Ents H xs) (t : TupKeep H H') : Ents H' xs := fun x hx => (h x hx).mono t
def full (xs : List (NK × Addr)) : List (NK × Addr × Value) := xs.map fun x => (x.1, x.2, Value.bool true)
def NDict (P : Program) (w : World) (h : Heap) (a : Addr) (xs : List (NK × Addr)) : Prop := (a == sysModules) = false ∧
  ∃ o es ep, h.get? a = some o ∧ o.ExactDict ∧ o.data = .dict es ep ∧ es.toList = (full xs).map (entryOfKey (nestedKind P w)) ∧ ((full xs).map (·.1)).Nodup
def NDO (P : Program) (w : World) (a : Addr) (xs : List (NK × Addr)) : HO := .ext fun h => NDict P w h a xs
section
variable {P : Program} {w : World} {H : Hp} {h : Heap} {a : Addr} {xs : List (NK × Addr)}
theorem nd_ok (R : NDict P w h a xs) : ObjOk P w H h a (NDO P w a xs) := by
  have ⟨hs, o, es, ep, ho, r⟩ := R
  refine ⟨R, ⟨o, ho⟩, fun h1 h2 p k => ?_⟩
  have ⟨hs, o, es, ep, ho, r⟩ : NDict P w h1 a xs := p
  exact ⟨hs, o, es, ep, k o ho, r⟩
theorem all_text {h : Heap} : ∀ {ss : List Str} {us : List Value}, Vals (ss.map V.str) us → NestedAll h (ss.map .text) us
  | [], us, r => by cases r; exact .nil
  | s :: ss, us, r => by
    cases r with
    | cons r t =>
      obtain ⟨tk, rfl⟩ := r
      exact .cons (.text s tk) (all_text t)
end
section
variable {X : Cx} {pins : List (Addr × Obj)} {σ : L2.St} {H : Hp} {s : Shared}
theorem is_of_k1 (I : Inv X pins σ H s) {ss : List Str} {b : Addr} (h : HK1 H ss b) : NestedIs s.heap (K1 ss) (.ref b) := by
  obtain ⟨z, its, rv, ho⟩ := (show ObjOk X.prog X.w H s.heap b (.tup (ss.map V.str)) from I.hok b _ h)
  obtain ⟨o, ho, hc, n, hd⟩ := ho
  exact .tup ho hc hd (by simpa using all_text rv)
theorem all_k1 (I : Inv X pins σ H s) : ∀ {ls : List (List Str)} {cs : List Addr} {us : List Value}, Paired (HK1 H) ls cs → Vals (cs.map V.ref) us → NestedAll s.heap (ls.map K1) us
  | [], [], us, .nil, r => by cases r; exact .nil
  | l :: ls, c :: cs, us, .cons p q, r => by
    cases r with
    | cons r t =>
      cases r
      exact .cons (is_of_k1 I p) (all_k1 I q t)
theorem is_of_k2 (I : Inv X pins σ H s) {ls : List (List Str)} {b : Addr} (h : HK2 H ls b) : NestedIs s.heap (K2 ls) (.ref b) := by
  obtain ⟨cs, h1, h2⟩ := h
  obtain ⟨z, its, rv, ho⟩ := (show ObjOk X.prog X.w H s.heap b (.tup (cs.map V.ref)) from I.hok b _ h1)
  obtain ⟨o, ho, hc, n, hd⟩ := ho
  exact .tup ho hc hd (by simpa using all_k1 I h2 rv)
theorem depth_texts : ∀ ss : List Str, NestedKey.depthAll (ss.map .text) = 0
  | [] => rfl
  | s :: ss => by
    rw [List.map_cons]
    simp only [NestedKey.depthAll, NestedKey.depth, depth_texts ss]
    rfl
theorem depth_k1 (ss : List Str) : (K1 ss).depth = 1 := by
  unfold K1
  simp only [NestedKey.depth, depth_texts]
theorem depth_k1s : ∀ ls : List (List Str), NestedKey.depthAll (ls.map K1) ≤ 1
  | [] => Nat.zero_le _
  | l :: ls => by
    rw [List.map_cons]
    have := depth_k1s ls
    simp only [NestedKey.depthAll, depth_k1]
    omega
theorem is_key (I : Inv X pins σ H s) {k : NK} {b : Addr} (h : IsKey H k b) : (nestedKind X.prog X.w).is s.heap k b := by
  rcases h with ⟨ss, e, h⟩ | ⟨ls, e, h⟩
  · subst e
    exact ⟨is_of_k1 I h, by rw [depth_k1]; decide⟩
  · subst e
    refine ⟨is_of_k2 I h, ?_⟩
    have := depth_k1s ls
    unfold K2
    simp only [NestedKey.depth]
    omega
theorem nd_raw (I : Inv X pins σ H s) {a : Addr} {xs : List (NK × Addr)} (e : H a = some (NDO X.prog X.w a xs)) (E : Ents H xs) : (a == sysModules) = false ∧ s.heap.DictOfH (nestedKind X.prog X.w) a (full xs) := by
  have ⟨hs, o, es, ep, ho, hx, hd, he, hn⟩ : NDict X.prog X.w s.heap a xs := (I.hok a _ e).1
  refine ⟨hs, o, es, ep, ho, hx, hd, he, fun x hx => ?_, hn⟩
  obtain ⟨y, hy, rfl⟩ := List.mem_map.mp hx
  exact is_key I (E y hy)
theorem nd_of {P : Program} {w : World} {h : Heap} {a : Addr} {xs : List (NK × Addr)} (hs : (a == sysModules) = false) (d : h.DictOfH (nestedKind P w) a (full xs)) : NDict P w h a xs := by
  obtain ⟨o, es, ep, ho, hx, hd, he, _, hn⟩ := d
  exact ⟨hs, o, es, ep, ho, hx, hd, he, hn⟩
theorem at_full : ∀ (xs : List (NK × Addr)) (k : NK), (atKey (full xs) k).isSome = decide (k ∈ xs.map (·.1))
  | [], k => by simp [full, atKey]
  | x :: xs, k => by
    have ih := at_full xs k
    by_cases h : x.1 = k
    · simp [full, atKey, h]
    · have h' : ¬ k = x.1 := fun e => h e.symm
      have e : atKey (full (x :: xs)) k = atKey (full xs) k := by
        simp [full, atKey, h]
      rw [e, ih]
      simp [h']
theorem full_put {xs : List (NK × Addr)} {k : NK} {b : Addr} (h : k ∉ xs.map (·.1)) : storedH (full xs) k b (Value.bool true) = full (xs ++ [(k, b)]) := by
  have e : atKey (full xs) k = none := by
    have z := at_full xs k
    rw [decide_eq_false h] at z
    exact Option.not_isSome_iff_eq_none.mp (by rw [z]; exact Bool.false_ne_true)
  rw [storedH_new e]
  simp [full]
end
/-- k not in d -/
def tNNot (P : Program) (w : World) (ty td : TE) : TE := fun σ H Q => ty σ H fun y H1 => td σ H1 fun x H2 => ∃ (a b : Addr) (xs : List (NK × Addr)) (k : NK), x = .ref a ∧ y = .ref b ∧ H2 a = some (NDO P w a xs) ∧ Ents H2 xs ∧ IsKey H2 k b ∧ Q (.bl (!decide (k ∈ xs.map (·.1)))) H2
/-- d[k] = True, a new key -/
def sNPut (P : Program) (w : World) (td ty tv : TE) : TS := fun D σ H => tv σ H fun v H1 => td σ H1 fun x H2 => ty σ H2 fun y H3 => ∃ (a b : Addr) (xs : List (NK × Addr)) (k : NK), v = .bl true ∧ x = .ref a ∧ y = .ref b ∧ H3 a = some (NDO P w a xs) ∧ Ents H3 xs ∧ IsKey H3 k b ∧
  k ∉ xs.map (·.1) ∧ xs.length < 100000 ∧ D.nx σ (upd H3 a (NDO P w a (xs ++ [(k, b)])))
/-- {k: v} -/
def tNDisp (P : Program) (w : World) (tk tv : TE) : TE := fun σ H Q => ∀ p, H p = none → tk σ (upd H p (NDO P w p [])) fun x H1 => tv σ H1 fun v H2 => ∃ (b : Addr) (k : NK), x = .ref b ∧ v = .bl true ∧ H2 p = some (NDO P w p []) ∧ IsKey H2 k b ∧ Q (.ref p) (upd H2 p (NDO P w p [(k, b)]))
section
variable {X : Cx} {o i e value : Expr} {pos pos' tpos : Pos} {td ty tv tk : TE}
theorem pc_nnot (hu : X.A.units + 64 < cLine) (hi : PE X i ty) (ho : PE X o td) : PC X .NotIn i o (tNNot X.prog X.w ty td) := by
  refine ⟨fun pins s σ H Q I h => ?_⟩
  refine thn (hi.run pins s σ H _ I h) fun iv s1 ⟨y, H1, I1, ry, q1⟩ => thn (ho.run pins s1 σ H1 _ I1 q1) fun u s2 ⟨x, H2, I2, rx, a, b, xs, k, ex, ey, ha, hE, hk, q2⟩ => ?_
  subst ex ey
  obtain rfl : u = Value.ref a := rx
  obtain rfl : iv = Value.ref b := ry
  obtain ⟨hs, hd⟩ := nd_raw I2 ha hE
  refine wpAny_notIn_heap (show X.A.units + 1 + 8 < cLine by omega) (is_key I2 hk) hs hd ?_
  rw [at_full]
  exact ⟨.bl _, H2, I2.tok _, rfl, q2⟩
theorem ps_nput (hu : X.A.units + 64 < cLine) (ho : PE X o td) (hi : PE X i ty) (hv : PE X value tv) (hs : swapsWith value (some (.Subscript o i pos')) pos.line X.env = pure false) :
    PS X (.Assign [.Subscript o i pos'] value pos) (sNPut X.prog X.w td ty tv) := by
  refine ⟨fun pins s σ H D I h => ?_⟩
  refine wpAny_Assign_Subscript (thn (hv.run pins s σ H _ I h) fun r s1 ⟨v, H1, I1, rv, q1⟩ => thn (ho.run pins s1 σ H1 _ I1 q1) fun u s2 ⟨x, H2, I2, rx, q2⟩ => thn (hi.run pins s2 σ H2 _ I2 q2) fun iv s3 ⟨y, H3, I3, ry, a, b, xs, k, ev, ex, ey, ha, hE, hk, hn, hl, q3⟩ => ?_) hs
  subst ev ex ey
  obtain rfl : u = Value.ref a := rx
  obtain rfl : iv = Value.ref b := ry
  obtain rfl : r = Value.bool true := rv
  obtain ⟨hs, hd⟩ := nd_raw I3 ha hE
  refine wpAny_setItem_heap (show X.A.units + 1 + 8 < cLine by omega) (is_key I3 hk) hd (fun h' hd' sb => ⟨σ, _, ?_, q3⟩) (hsz := by unfold full; rw [List.length_map, sizeLine_eq]; omega)
  rw [full_put hn] at hd'
  have he : ∃ q, h'.get? a = some q := let ⟨q, _, _, hq, _⟩ := hd'; ⟨q, hq⟩
  exact d_write I3 (by rw [ha]; exact True.intro) sb he (nd_ok (nd_of hs hd'))
theorem pe_ndisp {keys : List (Option Expr)} {values : List Expr} (hu : X.A.units + 64 < cLine) (h : PPs X pos keys values [(tk, tv)]) (hall : keys.all (·.isSome) = true) (hl : keys.length = values.length) (h0 : keys ≠ [])
    (h15 : keys.length ≤ 15) : PE X (.Dict keys values pos) (tNDisp X.prog X.w tk tv) := by
  refine ⟨fun pins s σ H Q I q => ?_⟩
  have hn := I.hok.fresh (Nat.le_refl s.heap.objs.size)
  have hsys : (s.heap.objs.size == sysModules) = false := beq_eq_false_iff_ne.mpr (Ne.symm (Nat.ne_of_lt I.big))
  have nd0 : NDict X.prog X.w (s.heap.push { cls := .type "dict", data := .dict #[] }) s.heap.objs.size [] := ⟨hsys, _, #[], 0, Heap.get?_push_size _ rfl, ⟨rfl, rfl, rfl⟩, rfl, rfl, List.nodup_nil⟩
  have I1 := I.laid (a := s.heap.objs.size) (o := NDO X.prog X.w s.heap.objs.size []) (h' := s.heap.push { cls := .type "dict", data := .dict #[] }) (t' := s.toks) (fun _ _ q => Heap.get?_push_of_some _ q) (Nat.le_refl _) (nd_ok nd0)
  have hpl := pairTrees_length keys values X.env pos hall hl
  have hp0 : pairTrees keys values X.env pos ≠ [] := fun he => h0 (by rw [he] at hpl; exact List.length_eq_zero_iff.mp hpl.symm)
  rw [arm_eval_Dict, zip_pairTrees keys values X.env pos hall hl, dictDisplay_pairs _ hp0 (by omega)]
  refine wpAny_bind (wpAny_standAt (wpAny_bind (wpAny_subDictH (knd := nestedKind X.prog X.w) (Q := fun d s' => wpAny (model X.prog X.w) X.A (pure (Value.ref d)) (EP X pins σ Q) X.xe s') (show X.A.units + 8 < cLine by omega) (by omega) ?_)))
  refine thn (h.run pins _ σ _ (fun ps H2 => match ps with
    | [(x, v)] => ∃ (b : Addr) (k : NK), x = .ref b ∧ v = .bl true ∧ H2 s.heap.objs.size = some (NDO X.prog X.w s.heap.objs.size []) ∧ IsKey H2 k b ∧ Q (.ref s.heap.objs.size) (upd H2 s.heap.objs.size (NDO X.prog X.w s.heap.objs.size [(k, b)]))
    | _ => False) I1 (q _ hn)) fun ws s2 ⟨ps, H2, I2, rel, hq⟩ => ?_
  match ps, hq with
  | [(x, v)], ⟨b, k, ex, ev, hp, hk, q2⟩ =>
    subst ex ev
    cases rel with
    | @cons _ w2 _ _ r t =>
      cases t
      obtain ⟨r1, r2⟩ := r
      obtain ⟨wa, wb⟩ := w2
      obtain rfl : wa = Value.ref b := r1
      obtain rfl : wb = Value.bool true := r2
      obtain ⟨_, hd⟩ := nd_raw I2 hp (fun x hx => absurd hx List.not_mem_nil)
      refine ⟨[(k, b, Value.bool true)], ⟨rfl, rfl, is_key I2 hk, trivial⟩, hd, fun h' tk hd' sb => wpAny_pure ⟨.ref s.heap.objs.size, _, ?_, rfl, q2⟩⟩
      have he : ∃ q, h'.get? s.heap.objs.size = some q := let ⟨q, _, _, hq, _⟩ := hd'; ⟨q, hq⟩
      exact d_write I2 (by rw [hp]; exact True.intro) sb he (nd_ok (nd_of hsys hd'))
end
end K45
end
section
set_option maxRecDepth 100000
set_option maxHeartbeats 4000000
/-! sorted(set(xs)), xs no or one tuple of texts -/
namespace K45
open PySem PySem.Spec PyProof.Rows L2
section
variable {P : Program} {w : World} {A : Around} {E : Value → Shared → Prop} {s : Shared}
theorem hashBy_any {k : NK} {b : Addr} {Q : Bool → Shared → Prop} (hk : NestedIs s.heap k (.ref b)) (hd1 : k.depth ≤ 1) (h : ∀ r, Q r s) : wpAny (model P w) A (hashByValue 8 (.ref b)) Q E s := by
  cases hk with
  | @tup _ o vs n ks ho hc hd hall =>
    have hT : s.TypeIs (.ref b) "tuple" := ⟨o, ho, hc⟩
    unfold hashByValue
    refine wpAny_bind (wpAny_specialOf hT F.slot_tuple_hash.lookup ?_)
    show wpAny _ _ (seqItems? (.ref b) >>= _) _ _ s
    refine wpAny_bind (wpAny_seqItems ho hd ?_)
    refine wpAny_bind ?_
    show wpAny _ _ (forIn vs _ _) _ _ s
    rw [← Array.forIn_toList]
    have leaf : ∀ v ∈ vs.toList, ∃ c : Bool, hashByValue 7 v = pure c := by
      have key : ∀ (ks : List NK) (us : List Value), NestedKey.depthAll ks ≤ 0 → NestedAll s.heap ks us → ∀ v ∈ us, ∃ c : Bool, hashByValue 7 v = pure c := by
        intro ks
        induction ks with
        | nil => intro us _ h v hv; cases h; cases hv
        | cons k ks ih =>
          intro us hz h v hv
          simp only [NestedKey.depthAll] at hz
          cases h with
          | cons h1 h2 =>
            rcases List.mem_cons.mp hv with e | hv
            · subst e
              cases h1 with
              | none => exact ⟨true, rfl⟩
              | bool e => exact ⟨true, rfl⟩
              | int i t => exact ⟨true, rfl⟩
              | text x t => exact ⟨false, rfl⟩
              | tup _ _ _ _ => simp only [NestedKey.depth] at hz; omega
            · exact ih _ (by omega) h2 v hv
      refine key ks vs.toList ?_ hall
      simp only [NestedKey.depth] at hd1
      omega
    refine wpAny_forIn_list _ (fun rest r s' => s' = s ∧ (∀ v ∈ rest, ∃ c : Bool, hashByValue 7 v = pure c) ∧ r.1 = none) _ ?_ ?_ _ _ ⟨rfl, leaf, rfl⟩
    · rintro v rest r s' ⟨rfl, hall2, hr⟩
      obtain ⟨c, e⟩ := hall2 v List.mem_cons_self
      rw [e]
      refine wpAny_bind (wpAny_pure ?_)
      cases c with
      | true =>
        simp only [Bool.not_true, Bool.false_eq_true, if_false]
        exact wpAny_pure ⟨rfl, fun u hu => hall2 u (List.mem_cons_of_mem _ hu), rfl⟩
      | false =>
        simp only [Bool.not_false, if_true]
        exact wpAny_pure (wpAny_pure (h false))
    · rintro ⟨r1, r2⟩ s' ⟨rfl, _, hr⟩
      simp only at hr
      subst hr
      exact wpAny_pure (h true)
/-- one value put into a new set -/
theorem add_first {S : Addr} {v : Value} {h0 : Int} {Q : Bool → Shared → Prop} (ho : s.heap.get? S = some (emptySet w)) (hv : v.scannable = false) (hby : ∀ (Q' : Bool → Shared → Prop), (∀ r, Q' r s) → wpAny (model P w) A (hashByValue 8 v) Q' E s)
    (hQ : ∀ h', Heap.SameBut S s.heap h' → SetV w h' S [v] → Q true { s with heap := h' }) : wpAny (model P w) A (setAddHashed S v h0) Q E s := by
  have hf : SetTable.fits (.fresh 0 0 (!w.params.followText "set-order")) (#[] : Array (Int × Value)).size = true := rfl
  have T : TabOk (.fresh 0 0 (!w.params.followText "set-order")) [] := ⟨List.Pairwise.nil, rfl, rfl, .inl rfl, fun x hx => (by cases hx), fun i h j hi => (by simp at hi)⟩
  have hled : w.params.followText "set-order" = true ∨ (SetTable.fresh 0 0 (!w.params.followText "set-order")).led = true := by
    show _ ∨ (!w.params.followText "set-order") = true
    cases w.params.followText "set-order"
    · exact .inr rfl
    · exact .inl rfl
  have hplain : (SetTable.fresh 0 0 (!w.params.followText "set-order")).plain = true := rfl
  have hgw : ¬ (SetTable.fresh 0 0 (!w.params.followText "set-order")).gaveWay = true := by
    show ¬ ((7 % 2 == 0) = true)
    decide
  have hmask : (SetTable.fresh 0 0 (!w.params.followText "set-order")).mask = 7 := rfl
  have hplace : (SetTable.fresh 0 0 (!w.params.followText "set-order")).place.toList = [] := rfl
  unfold emptySet at ho
  generalize SetTable.fresh 0 0 (!w.params.followText "set-order") = t at ho hf T hled hplain hgw hmask hplace
  have hK : way t.mask h0 0 ∉ t.place.toList := by rw [hplace]; exact List.not_mem_nil
  have hb : ∀ k, k < 0 → way t.mask h0 k ∈ t.place.toList := fun k hk => absurd hk (Nat.not_lt_zero _)
  unfold setAddHashed
  refine wpAny_holding ?_
  rw [show (100000 : Nat) = 99999 + 1 from rfl, setAddHashedIn_succ]
  refine wpAny_bind (wpAny_setState_of ho rfl hf ?_)
  dsimp only
  refine wp_if_neg (by simp [byScan, hv]) ?_
  try refine wpAny_bind (wpAny_pure ?_)
  refine wpAny_bind ?_
  unfold setSearch
  rw [show (100000 : Nat) = 99999 + 1 from rfl, setSearchFrom_succ]
  refine wpAny_bind (wpAny_setState_of ho rfl hf ?_)
  dsimp only
  refine wp_if_neg hgw ?_
  try refine wpAny_bind (wpAny_pure ?_)
  have spec := go_spec t T.ris T.dm (fun i => (((#[] : Array (Int × Value))[i]?).map (·.1)).getD 0) h0 (10 * SetTable.turns t.mask) 0 (runAt t.mask (SetTable.bits h0 % (t.mask + 1)) (SetTable.bits h0)) rfl (by rw [hmask]; decide) (fun k hk => absurd hk (Nat.not_lt_zero _)) hK
  rcases spec with ⟨k, i, hk, _⟩ | ⟨_, hpr⟩
  · exact absurd hk (Nat.not_lt_zero _)
  have hpr' : t.probe (fun i => (((#[] : Array (Int × Value))[i]?).map (·.1)).getD 0) h0 ((none : Option SetTable.Probe).getD (t.probeStart h0)) = some (.empty (way t.mask h0 0) none) := hpr
  rw [hpr']
  dsimp only
  refine wpAny_pure ?_
  dsimp only
  refine wpAny_bind (wpAny_setState_of ho rfl hf ?_)
  dsimp only
  obtain ⟨q1, q2, q3, q4, q5, q6, q7, q8, q9⟩ := T.put hK hb
  have hp1 : (t.put (way t.mask h0 0)).1.plain = true := by rw [q6]; exact hplain
  generalize hpt : t.put (way t.mask h0 0) = pt at q1 q3 q4 q5 q6 q7 q8 q9 hp1 ⊢
  obtain ⟨t1, p⟩ := pt
  dsimp only at q1 q3 q4 q5 q6 q7 q8 q9 hp1 ⊢
  subst q1
  have hz0 : SetTable.below t.place (way t.mask h0 0) = 0 := by
    simp at q2; exact q2
  have fin : ∀ (t2 : SetTable), t2.place = t1.place → t2.led = t1.led → t2.mask = t1.mask → t2.fill = t1.fill → t2.dummies = t1.dummies → t2.fits 1 = true →
      wpAny (model P w) A (do
        storeSet S (SetTable.insertAt (#[] : Array (Int × Value)) (SetTable.below t.place (way t.mask h0 0)) (h0, v)) t2
        if (!false && t2.tooFull) = true then do setRelay S (SetTable.grown ((#[] : Array (Int × Value)).size + 1)); pure true else pure true) Q E s := by
    intro t2 e1 e2 e3 e4 e5 ef
    have hes : (SetTable.insertAt (#[] : Array (Int × Value)) (SetTable.below t.place (way t.mask h0 0)) (h0, v)).toList = [(h0, v)] := by
      rw [SetTable.toList_insertAt, hz0]; rfl
    generalize SetTable.insertAt (#[] : Array (Int × Value)) (SetTable.below t.place (way t.mask h0 0)) (h0, v) = es1 at hes ⊢
    have hsz : es1.size = 1 := by rw [← Array.length_toList, hes]; rfl
    refine wpAny_bind (wpAny_storeSet_of ho rfl ?_ (by rw [hsz, sizeLine_eq]; omega))
    have sb : Heap.SameBut S s.heap (s.heap.update S (Obj.putSet es1 t2)) := Heap.SameBut.update ..
    have ho1 := store_at (es' := es1) (t' := t2) ho rfl
    refine wp_if_neg ?_ (wpAny_pure (hQ _ sb ⟨_, es1, _, t2, ho1, ⟨rfl, rfl, rfl⟩, rfl, by rw [hes]; rfl, by rw [hsz]; unfold scanBound; omega, by rw [hsz]; exact ef, by rw [e1]; exact q3.ris, by rw [e2, q5]; exact hled⟩))
    unfold SetTable.tooFull
    rw [e3, e4, q9, q4, hmask]
    decide
  have h1 : t1.place.size = 1 := by
    have := q3.sz
    rw [this, hz0]; rfl
  have h2 : t1.fill = 1 := q9
  have h3 : t1.mask = 7 := by rw [q4, hmask]
  have f0 : ∀ t2 : SetTable, t2.place = t1.place → t2.fill = t1.fill → t2.mask = t1.mask → t2.fits 1 = true := by
    intro t2 e1 e2 e3
    unfold SetTable.fits
    rw [e1, e2, e3, h1, h2, h3]
    decide
  first
    | (refine wpAny_bind ?_
       refine wp_if_pos hp1 ?_
       refine hby _ fun r => ?_)
    | refine wp_if_pos hp1 (wpAny_bind (hby _ fun r => ?_))
  cases r with
  | true => exact fin t1 rfl rfl rfl rfl rfl (f0 t1 rfl rfl rfl)
  | false => exact fin { t1 with plain := false } rfl rfl rfl rfl rfl (f0 { t1 with plain := false } rfl rfl rfl)
/-- nothing put in yet, or the one value -/
def JV (w : World) (S : Addr) (its : List Value) (i : Nat) (h : Heap) : Prop := (i = 0 → h.get? S = some (emptySet w)) ∧ (0 < i → SetV w h S its)
theorem setV_zero {h : Heap} {S : Addr} (ho : h.get? S = some (emptySet w)) : SetV w h S [] :=
  ⟨_, #[], 0, _, ho, ⟨rfl, rfl, rfl⟩, rfl, rfl, (by decide), (by rfl), List.Pairwise.nil, by
    show _ ∨ (!w.params.followText "set-order") = true
    cases w.params.followText "set-order"
    · exact .inr rfl
    · exact .inl rfl⟩
theorem SetV.at {h h' : Heap} {a : Addr} {vs : List Value} (R : SetV w h a vs) (k : ∀ o, h.get? a = some o → h'.get? a = some o) : SetV w h' a vs := by
  obtain ⟨o, es, ep, t, ho, r⟩ := R
  exact ⟨o, es, ep, t, k o ho, r⟩
theorem setAdd_key {S : Addr} {k : NK} {b : Addr} {Q : Bool → Shared → Prop} (hu : A.units + 8 < cLine) (ho : s.heap.get? S = some (emptySet w)) (hk : NestedIs s.heap k (.ref b)) (hd : k.depth ≤ 1)
    (hQ : ∀ h' tk, s.toks ≤ tk → Heap.SameBut S s.heap h' → SetV w h' S [.ref b] → Q true { s with heap := h', toks := tk }) : wpAny (model P w) A (setAdd S (.ref b)) Q E s := by
  unfold setAdd
  refine wpAny_holding (wpAny_bind (pyHash_key k _ A s _ hk (by omega) ?_))
  refine add_first (s := { s with toks := s.toks + k.draws }) ho rfl (fun Q' hq => ?_) fun h' sb r => hQ h' _ (Nat.le_add_right _ _) sb r
  exact hashBy_any (s := { s with toks := s.toks + k.draws }) hk hd hq
theorem one_at {its : List Value} {i : Nat} {v : Value} (h1 : its.length ≤ 1) (hv : its[i]? = some v) : i = 0 ∧ its = [v] := by
  match its, h1 with
  | [], _ => simp at hv
  | [u], _ =>
    cases i with
    | zero =>
      have e : u = v := by simpa using hv
      exact ⟨rfl, by rw [e]⟩
    | succ i => simp at hv
theorem JV.whole {S : Addr} {its : List Value} {h : Heap} (h1 : its.length ≤ 1) {n : Nat} (hn : n = its.length) (J : JV w S its n h) : SetV w h S its := by
  match its, h1 with
  | [], _ => exact setV_zero (J.1 hn)
  | [v], _ => exact J.2 (by rw [hn]; exact Nat.zero_lt_one)
theorem set_of_one' {l : Addr} {its : List Value} {Q : Value → Shared → Prop} (hh : A.handled = none) (hl : s.heap.IsList l its.toArray) (h1 : its.length ≤ 1) (hu : A.units + 100 < cLine)
    (hk : ∀ v ∈ its, ∃ (k : NK) (b : Addr), v = .ref b ∧ NestedIs s.heap k v ∧ k.depth ≤ 1)
    (h : ∀ (h' : Heap) (tk : Nat), SetV w h' s.heap.objs.size its → (∀ b o, s.heap.get? b = some o → h'.get? b = some o) → Q (.ref s.heap.objs.size) { s with heap := h', toks := tk }) :
    wpAny (model P w) A (call (.type "set") [.ref l]) Q E s := by
  have st : ∀ (A' : Around) (i : Nat) (v : Value) (s1 : Shared) (Q : Bool → Shared → Prop) (E : Value → Shared → Prop), A'.handled = none → A'.units ≤ A.units + 20 → i < its.toArray.size → its.toArray[i]? = some v → JV w s.heap.objs.size its i s1.heap → (∀ b o, s.heap.get? b = some o → s1.heap.get? b = some o) →
      (∀ (h' : Heap) (tk : Nat) (b : Bool), s1.toks ≤ tk → (∀ b o, b ≠ s.heap.objs.size → s1.heap.get? b = some o → h'.get? b = some o) → JV w s.heap.objs.size its (i + 1) h' → Q b { s1 with heap := h', toks := tk }) → wpAny (model P w) A' (setAdd s.heap.objs.size v) Q E s1 := by
    intro A' i v s1 Q' E' hA hU hi hv J hk1 hq
    have hv' : its[i]? = some v := by simpa using hv
    obtain ⟨e1, e2⟩ := one_at h1 hv'
    have hmem : v ∈ its := List.mem_of_getElem? hv'
    obtain ⟨k, b, e3, hn, hd⟩ := hk v hmem
    have hn1 : NestedIs s1.heap k (.ref b) := NestedIs.at (fun b o vs n e _ => hk1 b o e) k _ (by rw [← e3]; exact hn)
    have hu1 : A'.units + 8 < cLine := Nat.lt_of_le_of_lt (Nat.add_le_add_right hU 8) (Nat.lt_of_le_of_lt (by omega : A.units + 20 + 8 ≤ A.units + 100) hu)
    rw [e3]
    refine setAdd_key hu1 (J.1 e1) hn1 hd fun h' tk htk sb r => hq h' tk true htk (fun b o hb e => (sb.2 b hb).trans e) ⟨fun z => absurd z (Nat.succ_ne_zero i), fun _ => ?_⟩
    rw [e2, e3]
    exact r
  refine call_setL hh hl (JV w s.heap.objs.size its) (fun i h1 h2 J k _ => ⟨fun e => k _ (J.1 e), fun e => (J.2 e).at k⟩) st (fun h' e _ => ⟨fun _ => e, fun z => absurd z (Nat.lt_irrefl _)⟩) fun h' tk J hk1 => ?_
  exact h h' tk (J.whole h1 (by rw [List.size_toArray])) hk1
theorem perm_one {us vs : List Value} (h1 : vs.length ≤ 1) (p : us.Perm vs) : us = vs := by
  cases vs with
  | nil => exact List.perm_nil.mp p
  | cons v r =>
    have hr : r = [] := List.eq_nil_of_length_eq_zero (by rw [List.length_cons] at h1; omega)
    subst hr
    exact List.perm_singleton.mp p
theorem sorted_one {a : Addr} {vs : List Value} {Q : Value → Shared → Prop} (R : SetV w s.heap a vs) (hh : A.handled = none) (h1 : vs.length ≤ 1)
    (hQ : ∀ s' p (c : Nat), (∀ b o, s.heap.get? b = some o → s'.heap.get? b = some o) → s'.gens = s.gens → s'.os = s.os → s.heap.objs.size ≤ p → s'.heap.get? p = some (seqObj "list" vs.toArray c) → Q (.ref p) s') :
    wpAny (model P w) A (call (.builtin "sorted") [.ref a]) Q E s := by
  refine sorted_setV (G := fun out => out.toList = vs) R hh (by omega) (fun A' s1 L us Q' E' pm hoL hq => ?_) fun s' p out c k g o hp hc hG => ?_
  · refine SK.plain_sort (r := fun _ => 0) hoL (Nat.lt_of_le_of_lt (Nat.le_trans (Nat.le_of_eq pm.length_eq) h1) (by decide)) (fun h2 => absurd (Nat.le_trans h2 (Nat.le_trans (Nat.le_of_eq pm.length_eq) h1)) (by decide)) fun ps out e1 e2 e3 => hq out ?_
    exact perm_one h1 ((TS.out_rank (r := fun _ => 0) e1 e2 e3).1.trans pm)
  · refine hQ s' p c k g o hp ?_
    rw [hc, ← hG, Array.toArray_toList]
end
/-- sorted(set(xs)), xs no or one tuple of texts -/
def tSortOne (K : PySem.W.Frag) (ta : TE) : TE := fun σ H Q => ta σ H fun x H1 => ∃ (l : Addr) (bs : List Addr), x = V.ref l ∧ SqL K H1 l (bs.map V.ref) ∧ bs.length ≤ 1 ∧ (∀ b ∈ bs, ∃ ss, HK1 H1 ss b) ∧
  ∀ p : Addr, H1 p = none → Q (.ref p) (upd H1 p (.lst (bs.map V.ref)))
section
variable {X : Cx} {a : Expr} {ta : TE} {p p2 q pos : Pos}
theorem refs_raw : ∀ {bs : List Addr} {us : List Value}, Vals (bs.map V.ref) us → us = bs.map Value.ref
  | [], us, r => by cases r; rfl
  | b :: bs, us, r => by
    cases r with
    | cons r t =>
      cases r
      rw [refs_raw t]; rfl
theorem raw_refs : ∀ (bs : List Addr), Vals (bs.map V.ref) (bs.map Value.ref)
  | [] => .nil
  | b :: bs => .cons rfl (raw_refs bs)
theorem sortOne (K : PySem.W.Frag) (hu : X.A.units + 100 < cLine) (hc : X.calm = true) (hg : Gl X "sorted") (hm : X.mg "sorted" = none) (hg2 : Gl X "set") (hm2 : X.mg "set" = none) (ha : PE X a ta)
    (na : starEach [a] X.env = (false, eval a X.env) :: starEach [] X.env := by rfl) (hK : X.K = K := by rfl) : PE X (.Call (.Name "sorted" p) [.Call (.Name "set" p2) [a] [] q] [] pos) (tSortOne K ta) := by
  subst hK
  refine ⟨fun pins s σ H Q I h => ?_⟩
  refine Call_ (ld_blt I hg hm PyProof.Rows.boot_sorted ?_)
  refine PyProof.Rows.callWith_builtin1 (PyProof.Rows.args_cons ?_ rfl) rfl rfl
  refine Call_ (ld_blt I hg2 hm2 PyProof.Rows.boot_set ?_)
  refine PyProof.Rows.callWith_type1 (PyProof.Rows.args_cons (thn (ha.run pins s σ H _ I h) fun v s1 ⟨x, H1, I1, r1, q1⟩ => PyProof.Rows.args_nil ?_) na) na rfl
  obtain ⟨l, bs, rfl, hq, h1, hk, q1⟩ := q1
  cases r1
  obtain ⟨its, r, pl, hz⟩ := I1.list hq
  have eit := refs_raw r
  subst eit
  refine set_of_one' (I1.ok.hd hc) pl.isList (by rw [List.length_map]; exact h1) hu (fun v hv => ?_) fun h' tk hS hkp => ?_
  · obtain ⟨b, hb, rfl⟩ := List.mem_map.mp hv
    obtain ⟨ss, hss⟩ := hk b hb
    exact ⟨K1 ss, b, rfl, is_of_k1 I1 hss, by rw [depth_k1]; exact Nat.le_refl _⟩
  · refine PyProof.Rows.args_nil ?_
    have I2 : Inv X pins σ H1 { s1 with heap := h', toks := tk } := I1.kept fun b o e => hkp b o e
    refine sorted_one (s := { s1 with heap := h', toks := tk }) hS (I1.ok.hd hc) (by rw [List.length_map]; exact h1) fun s' p' cc k g o hp hcc => ?_
    have hlen : (bs.map V.ref).length ≤ sizeLine := by rw [List.length_map, sizeLine_eq]; omega
    have hn : H1 p' = none := I2.hok.fresh hp
    have J : Inv X pins σ (upd H1 p' (.lst (bs.map V.ref))) { s1 with heap := s'.heap, gens := s'.gens, drawn := s'.drawn, toks := s'.toks } :=
      Inv.call (s := { s1 with heap := h', toks := tk }) (ch := []) I2 (Un.laid k hp hn) (I2.hok.laid k hp ⟨hlen, bs.map Value.ref, cc, raw_refs bs, hcc⟩) (by rw [g]; exact I1.bare) (fun _ z => nomatch z)
    have e : s' = { s1 with heap := s'.heap, gens := s'.gens, drawn := s'.drawn, toks := s'.toks } := by
      cases s'
      cases s1
      cases o
      rfl
    rw [e]
    exact ⟨.ref p', _, J, rfl, q1 p' hn⟩
end
end K45
end
section
set_option maxRecDepth 100000
set_option maxHeartbeats 4000000
namespace K45
open PySem PySem.Spec L2
section
variable {P : Program} {w : World} {K : PySem.W.Frag} {mg : Str → Option Value} {base : Heap}
theorem all_trues (n : Nat) : (List.replicate n true).all id = true := by simp [List.all_replicate]
theorem sgn_in : ∀ c ∈ sgns, (!(Builtin.Str.occurrences ("abcdefghijklmnopqrstuvwxyz0123456789." : Str) (⟨#[c]⟩ : Str) 0 ("abcdefghijklmnopqrstuvwxyz0123456789." : Str).length 1).isEmpty) = true := by decide +kernel
/-- the constant of the program -/
structure Glb (mg : Str → Option Value) : Prop where
  signs : ∃ t, mg "NAME_SIGNS" = some (.str "abcdefghijklmnopqrstuvwxyz0123456789." t)
def spIsList : Sp := fun vs H Q _ => ∃ a : Addr, vs = [.ref a] ∧ ((∃ xs, H a = some (.lst xs)) ∨ ∃ xs, H a = some (.tup xs)) ∧ ∀ H', Same H H' → Q (.bl true) H'
abbrev sc_is_list_st : Stmt := top 4
abbrev sc_is_list_N : List Str := ["thing"]
theorem sc_is_list : FnScope sc_is_list_N ["thing"] (C8.fnScope sc_is_list_st) := C8.fnScope_by (by decide +kernel)
theorem c_is_list (T : Txt K mg) (D : Dfn K mg "is_list" sc_is_list_st ["thing"]) : Call1 P w K mg base 1 "is_list" spIsList := by
  refine D.cal sc_is_list (fun vs H Q E h => ?_) (fun f cdv A outer s H vs Q E hr h => ?_)
  · obtain ⟨a, rfl, _⟩ := h
    rfl
  · obtain ⟨a, rfl, ha, k⟩ := h
    refine ⟨_, (pss_one (ps_ret (pe_callB (isiTK K) (by rfl) T.n_isinstance (by decide +kernel) (pa_cons (pv 0) (pa_cons (pe_tup (pa_cons (pe_bltn (v := .ty "list") (u := .type "list") (by rfl) T.n_list (by decide +kernel) rfl) (pa_cons (pe_bltn (v := .ty "tuple") (u := .type "tuple") (by rfl) T.n_tuple (by decide +kernel) rfl) pa_nil))) pa_nil))))), ?_⟩
    refine ⟨_, rfl, sz_le (by decide), fun tp htp => ?_⟩
    have sm := same_upd (o := .tup [V.ty "list", V.ty "tuple"]) htp
    rcases ha with ⟨xs, ha⟩ | ⟨xs, ha⟩
    · exact ⟨.ref a, tp, _, .type "list", [.type "list", .type "tuple"], true, rfl, upd_same, .cons (.ty _) (.cons (.ty _) .nil), .base (.lst (sm _ _ ha)), rfl, k _ sm⟩
    · exact ⟨.ref a, tp, _, .type "tuple", [.type "list", .type "tuple"], true, rfl, upd_same, .cons (.ty _) (.cons (.ty _) .nil), .base (.tup (sm _ _ ha)), rfl, k _ sm⟩
def spIsName : Sp := fun vs H Q _ => ∃ x : Str, vs = [.str x] ∧ Nm x ∧ ∀ H', Same H H' → Q (.bl true) H'
abbrev sc_is_name_st : Stmt := top 5
abbrev sc_is_name_N : List Str := ["thing", "sign"]
theorem sc_is_name : FnScope sc_is_name_N ["thing"] (C8.fnScope sc_is_name_st) := C8.fnScope_by (by decide +kernel)
theorem c_is_name (T : Txt K mg) (G : Glb mg) (D : Dfn K mg "is_name" sc_is_name_st ["thing"]) : Call1 P w K mg base 1 "is_name" spIsName := by
  obtain ⟨tk, hsg⟩ := G.signs
  refine D.cal sc_is_name (fun vs H Q E h => ?_) (fun f cdv A outer s H vs Q E hr h => ?_)
  · obtain ⟨a, rfl, _⟩ := h
    rfl
  · obtain ⟨a, rfl, ha, k⟩ := h
    refine ⟨_, (pss_cons (ps_if (PW.pt (pw_or (pt_not (pt_val (pe_callB (isiK K) (by rfl) T.n_isinstance (by decide +kernel) (pa_cons (pv 0) (pa_cons (pe_bltn (v := .ty "str") (u := .type "str") (by rfl) T.n_str (by decide +kernel) rfl) pa_nil))))) (pw_or1 (pt_not (pt_chain op_lt op_le pe_int (pe_callB (lenK K) (by rfl) T.n_len (by decide +kernel) (pa_cons (pv 0) pa_nil)) pe_int))))) (pss_one (ps_ret pe_bl))
     pss_nil)
    (pss_one (ps_ret (pe_callB (allK K rfl) (by rfl) T.n_all (by decide +kernel) (pa_cons (pe_lc (own := [("sign", 1)]) (g := (gName 1)) (tt := tYes) rfl sc_is_name.nd (pi_str (pv 0)) (blkOk_by (N := sc_is_name_N) (sc := C8.fnScope sc_is_name_st) (by decide +kernel)) (fun _ _ _ _ _ => (pg_name (i := 1) sc_is_name.nd rfl (by first | exact Or.inl rfl | exact Or.inr rfl))) (fun _ _ _ _ _ => pts_nil) (fun _ _ _ _ _ => (pe_cmpR op_in_str (pv 1) (pe_glob (v := .str "abcdefghijklmnopqrstuvwxyz0123456789.") (by rfl) hsg ⟨_, rfl⟩) rfl))) pa_nil))))), ?_⟩
    refine ⟨_, rfl, .str a, .ty "str", .type "str", .type "str", true, rfl, .ty _, .base (.str a), rfl, _, rfl, iteF ?_⟩
    have hl1 := ha.pos
    have hl2 := ha.few
    refine ⟨_, rfl, .str a, a.length, rfl, ⟨sz_le (by omega), rfl⟩, 0, (a.length : Nat), rfl, rfl, true, congrArg V.bl (decide_eq_true (show (0 : Int) < (a.length : Nat) by omega)), ?_⟩
    refine ⟨(a.length : Nat), 40, rfl, rfl, true, congrArg V.bl (decide_eq_true (show ((a.length : Nat) : Int) ≤ 40 by omega)), iteF ?_⟩
    refine ⟨_, rfl, a, rfl, fun Dn hD => ?_⟩
    refine lc_it (Walk.mono walk_str (fun H h => h) fun i H x H' _ _ y => y) (fun j H2 => H2 Dn = some (.lst ((List.replicate j true).map V.bl)) ∧ Same H H2) ⟨upd_same, same_upd hD⟩ (fun _ _ _ _ => True.intro) ?_ ?_
    · rintro i x H2 H3 hi ⟨g2, sm⟩ ⟨rfl, c, hc, rfl⟩
      have hcm : c ∈ sgns := ha.sg c (by rw [Array.getElem?_eq_some_iff] at hc; obtain ⟨h1, h2⟩ := hc; rw [← h2]; simp)
      have hi2 : i < a.length := hi
      refine ⟨rfl, _, rfl, _, _, rfl, rfl, _, g2, small1000 (by rw [List.length_map, List.length_replicate]; omega), ?_, fun b o e => by rw [upd_ne (ne_of_none e hD)]; exact sm b o e⟩
      rw [upd_same, sgn_in c hcm, List.replicate_succ', List.map_append]
      rfl
    · rintro H2 ⟨g2, sm⟩
      exact ⟨Dn, _, rfl, SqL.of g2, by rw [all_trues]; exact k _ sm⟩
theorem iteDF {c A B : Prop} [Decidable c] (hc : ¬ c) (h : B) : if decide c = true then A else B := by
  rw [if_neg (by rw [decide_eq_true_eq]; exact hc)]; exact h
theorem iteDT {c A B : Prop} [Decidable c] (hc : c) (h : A) : if decide c = true then A else B := by
  rw [if_pos (by rw [decide_eq_true_eq]; exact hc)]; exact h
theorem iteNT {c A B : Prop} [Decidable c] (hc : ¬ c) (h : A) : if (!decide c) = true then A else B := by
  rw [if_pos (by rw [decide_eq_false hc]; rfl)]; exact h
/-! ## locks -/
theorem same_unlock {H H2 : Hp} {d : Addr} {o : Obj} {u : HO} (hd : H d = some u) (s : Same (upd H d (.frz o u)) H2) : Same H (upd H2 d u) := fun b x e => by
  by_cases hb : b = d
  · subst hb
    rw [upd_same, ← hd]; exact e
  · rw [upd_ne hb]
    exact s b x (by rw [upd_ne hb]; exact e)
theorem lock_free {H : Hp} {d : Addr} {o : Obj} {u : HO} {D : Addr} (hD : (upd H d (.frz o u)) D = none) : D ≠ d ∧ H D = none := by
  have h1 : D ≠ d := fun e => by rw [e, upd_same] at hD; cases hD
  exact ⟨h1, by rw [upd_ne h1] at hD; exact hD⟩
theorem tab_get {ks : List Str} {f : Str → V} {i : Nat} {k : Key} {v : V} (h : (tab ks f)[i]? = some (k, v)) : ∃ x, ks[i]? = some x ∧ k = Sum.inr x ∧ v = f x := by
  unfold tab at h
  rw [List.getElem?_map] at h
  obtain ⟨x, hx, e⟩ := Option.map_eq_some_iff.mp h
  exact ⟨x, hx, (Prod.mk.inj e).1.symm, (Prod.mk.inj e).2.symm⟩
theorem tyD {K : PySem.W.Frag} {H : Hp} {a : Addr} {kvs : List (Key × V)} (h : Rd H a (.dK kvs)) : TyX K H (.ref a) (.type "dict") := by
  rcases h with h | ⟨o, h⟩
  · exact .base (.dK h)
  · exact .fDict h
theorem str_at {xs : List Str} {i : Nat} {x : V} (h : (xs.map V.str)[i]? = some x) : ∃ a, xs[i]? = some a ∧ x = .str a := by
  rw [List.getElem?_map] at h
  obtain ⟨a, ha, e⟩ := Option.map_eq_some_iff.mp h
  exact ⟨a, ha, e.symm⟩
/-- moves as they are given: the rows' letters in any order but the first row's, the cells lists or tuples -/
structure MvG (H : Hp) (m : Addr) (M : Mch) (r : Str → Addr) (t : Str → Str → Addr) (Ls : Str → List Str) : Prop where
  top : Rd H m (.dK (tab M.S fun s => .ref (r s)))
  row : ∀ s ∈ M.S, H (r s) = some (.dK (tab (Ls s) fun a => .ref (t s a)))
  per : ∀ s ∈ M.S, (Ls s).Perm M.L
  fst : ∀ s S', M.S = s :: S' → Ls s = M.L
  cel : ∀ s ∈ M.S, ∀ a ∈ M.L, H (t s a) = some (.lst [.str (M.g s a), .str (M.d s a)]) ∨ H (t s a) = some (.tup [.str (M.g s a), .str (M.d s a)])
theorem MvG.same {H H' : Hp} {m : Addr} {M : Mch} {r : Str → Addr} {t : Str → Str → Addr} {Ls : Str → List Str} (h : MvG H m M r t Ls) (s : Same H H') : MvG H' m M r t Ls :=
  ⟨Rd.same h.top s, fun x hx => s _ _ (h.row x hx), h.per, h.fst, fun x hx a ha => (h.cel x hx a ha).imp (s _ _) (s _ _)⟩
def spLetBox : Sp := fun vs H Q _ => ∃ (m : Addr) (M : Mch) (r : Str → Addr) (t : Str → Str → Addr) (Ls : Str → List Str), vs = [.ref m] ∧ MvG H m M r t Ls ∧ M.Ok ∧
  ∀ (l : Addr) (H' : Hp), H l = none → H' l = some (.lst (M.L.map V.str)) → Same H H' → Q (.ref l) H'
abbrev sc_letters_of_box_st : Stmt := top 37
abbrev sc_letters_of_box_N : List Str := ["moves", "row", "letter"]
theorem sc_letters_of_box : FnScope sc_letters_of_box_N ["moves"] (C8.fnScope sc_letters_of_box_st) := C8.fnScope_by (by decide +kernel)
theorem c_letters_of_box (T : Txt K mg) (D : Dfn K mg "letters_of_box" sc_letters_of_box_st ["moves"]) (c_is_name : Call1 P w K mg base 1 "is_name" spIsName) : Call1 P w K mg base 2 "letters_of_box" spLetBox := by
  refine D.cal sc_letters_of_box (fun vs H Q E h => ?_) (fun f cdv A outer s H vs Q E hr h => ?_)
  · obtain ⟨m, M, r, t, Ls, rfl, _⟩ := h
    rfl
  · obtain ⟨m, M, r, t, Ls, rfl, G, ok, k⟩ := h
    have hu := hu_of hr
    refine ⟨_, (pss_cons (ps_set (i := 1) sc_letters_of_box.nd rfl (by first | exact Or.inl rfl | exact Or.inr rfl) (pe_ix (ix_listK K) (listVals rfl (by rfl) T.n_list (pv 0)) pe_int (fun _ _ => rfl)))
    (pss_cons (ps_if (PW.pt (pw_or (pt_not (pt_val (pe_callB (isiK K) (by rfl) T.n_isinstance (by decide +kernel) (pa_cons (pv 1) (pa_cons (pe_bltn (v := .ty "dict") (u := .type "dict") (by rfl) T.n_dict (by decide +kernel) rfl) pa_nil))))) (pw_or1 (pt_not (pt_val (pe_callB (allK K rfl) (by rfl) T.n_all (by decide +kernel) (pa_cons (pe_lock (pe_lc (own := [("letter", 2)]) (g := (gName 2)) (tt := tYes) rfl sc_letters_of_box.nd (pi_keys (pv 1)) (blkOk_by (N := sc_letters_of_box_N) (sc := C8.fnScope sc_letters_of_box_st) (by decide +kernel)) (fun _ _ _ _ _ => (pg_name (i := 2) sc_letters_of_box.nd rfl (by first | exact Or.inl rfl | exact Or.inr rfl))) (fun _ _ _ _ _ => pts_nil) (fun _ _ _ _ _ => (C8.pe_c c_is_name hr (by decide) (by rfl) (pa_cons (pv 2) pa_nil))))) pa_nil))))))) (pss_one (ps_ret (pe_lst pa_nil)))
     pss_nil)
    (pss_one (ps_ret (pe_callTy (call_listD rfl) (by rfl) T.n_list (by decide +kernel) (pa_cons (pv 1) pa_nil)))))), ?_⟩
    obtain ⟨s0, S', eS⟩ := List.exists_cons_of_ne_nil ok.s0
    have hs0 : s0 ∈ M.S := by rw [eS]; simp
    have eL := G.fst s0 S' eS
    refine ⟨_, rfl, m, _, rfl, G.top, fun l1 hl1 => ⟨l1, _, 0, V.ref (r s0), rfl, rfl, SqL.of upd_same, at_ofA (j := 0) rfl (by rw [eS]; rfl), ?_⟩⟩
    have s1 := same_upd (o := .lst ((tab M.S fun s => V.ref (r s)).map (·.2))) hl1
    have G1 := G.same s1
    have hr1 := G1.row s0 hs0
    rw [eL] at hr1
    refine ⟨_, rfl, _, _, .type "dict", .type "dict", true, rfl, .ty _, .base (.dK hr1), rfl, _, rfl, iteF ?_⟩
    refine ⟨r s0, _, hr1, True.intro, fun od => ⟨_, rfl, r s0, od, rfl, .inl ⟨_, upd_same, fun Dn hD => ?_⟩⟩⟩
    have fD := lock_free hD
    refine lc_it walk_keys (fun j H2 => H2 Dn = some (.lst ((List.replicate j true).map V.bl)) ∧ Same (upd (upd H l1 (.lst ((tab M.S fun s => V.ref (r s)).map (·.2)))) (r s0) (.frz od (.dK (tab M.L fun a => V.ref (t s0 a))))) H2) ⟨upd_same, same_upd hD⟩ (fun _ _ _ h => h.2 _ _ upd_same) ?_ ?_
    · rintro i x H2 H3 hi ⟨g2, sm⟩ ⟨rfl, kk, vv, hkv, rfl⟩
      obtain ⟨y, hy, rfl, rfl⟩ := tab_get hkv
      refine ⟨rfl, _, rfl, y, rfl, ok.lm y (List.mem_of_getElem? hy), fun H4 sm4 => ⟨_, sm4 _ _ g2, small1000 ?_, ?_, ?_⟩⟩
      · rw [List.length_map, List.length_replicate]
        rw [tab_len] at hi
        have := ok.lf
        omega
      · rw [upd_same, List.replicate_succ', List.map_append]; rfl
      · exact fun b o e => by rw [upd_ne (ne_of_none e hD)]; exact sm4 b o (sm b o e)
    · rintro H2 ⟨g2, sm⟩
      have s2 := same_unlock hr1 sm
      refine ⟨sm _ _ upd_same, Dn, _, rfl, SqL.of (by rw [upd_ne fD.1]; exact g2), ?_⟩
      rw [all_trues]
      refine ⟨_, rfl, iteF ⟨_, rfl, r s0, _, rfl, .inl (s2 _ _ hr1), fun l hl => ?_⟩⟩
      rw [tab_keys]
      have s12 : Same H (upd H2 (r s0) (.dK (tab M.L fun a => V.ref (t s0 a)))) := fun b o e => s2 b o (s1 b o e)
      exact k l _ (Same.free s12 hl) upd_same (same_upd2 s12 (Same.free s12 hl))
/-- a cell: a list or a tuple of two -/
def Cell (H : Hp) (c : Addr) (x y : V) : Prop := H c = some (.lst [x, y]) ∨ H c = some (.tup [x, y])
theorem Cell.same {H H' : Hp} {c : Addr} {x y : V} (h : Cell H c x y) (s : Same H H') : Cell H' c x y := h.imp (s _ _) (s _ _)
theorem Cell.ix0 {K : PySem.W.Frag} {H : Hp} {c : Addr} {x y : V} {Q : VK} (h : Cell H c x y) (q : Q x H) : rIx K (.ref c) (.int 0) H Q :=
  h.elim (fun z => .inl ⟨c, _, 0, x, rfl, rfl, SqL.of z, rfl, q⟩) fun z => .inr (.inl ⟨c, _, 0, x, rfl, rfl, SqT.of z, rfl, q⟩)
theorem Cell.ix1 {K : PySem.W.Frag} {H : Hp} {c : Addr} {x y : V} {Q : VK} (h : Cell H c x y) (q : Q y H) : rIx K (.ref c) (.int 1) H Q :=
  h.elim (fun z => .inl ⟨c, _, 1, y, rfl, rfl, SqL.of z, rfl, q⟩) fun z => .inr (.inl ⟨c, _, 1, y, rfl, rfl, SqT.of z, rfl, q⟩)
theorem Cell.len {K : PySem.W.Frag} {H : Hp} {c : Addr} {x y : V} (h : Cell H c x y) : LenV K (.ref c) H 2 :=
  h.imp (fun z => ⟨_, SqL.of z, rfl⟩) (fun z => ⟨_, SqT.of z, rfl⟩)
def spBoxMove (K : PySem.W.Frag) : Sp := fun vs H Q _ => ∃ (c q : Addr) (g d : Str) (S : List Str), vs = [.ref c, .ref q] ∧ Cell H c (.str g) (.str d) ∧ Nm g ∧ d ∈ S ∧ S.length ≤ 8 ∧ SqL K H q (S.map V.str) ∧ ∀ H', Same H H' → Q (.bl true) H'
abbrev sc_is_box_move_st : Stmt := top 38
abbrev sc_is_box_move_N : List Str := ["thing", "states"]
theorem sc_is_box_move : FnScope sc_is_box_move_N ["thing", "states"] (C8.fnScope sc_is_box_move_st) := C8.fnScope_by (by decide +kernel)
theorem c_is_box_move (T : Txt K mg) (D : Dfn K mg "is_box_move" sc_is_box_move_st ["thing", "states"]) (c_is_list : Call1 P w K mg base 1 "is_list" spIsList) (c_is_name : Call1 P w K mg base 1 "is_name" spIsName) : Call1 P w K mg base 2 "is_box_move" (spBoxMove K) := by
  refine D.cal sc_is_box_move (fun vs H Q E h => ?_) (fun f cdv A outer s H vs Q E hr h => ?_)
  · obtain ⟨c, q, g, d, S, rfl, _⟩ := h
    rfl
  · obtain ⟨c, q, g, d, S, rfl, hc, hg, hd, hS, hq, k⟩ := h
    refine ⟨_, (pss_cons (ps_if (PW.pt (pw_or (pt_not (pt_val (C8.pe_c c_is_list hr (by decide) (by rfl) (pa_cons (pv 0) pa_nil)))) (pw_or (pt_cmpR op_ne (pe_callB (lenK K) (by rfl) T.n_len (by decide +kernel) (pa_cons (pv 0) pa_nil)) pe_int (nomark _)) (pw_or1 (pt_not (pt_val (C8.pe_c c_is_name hr (by decide) (by rfl) (pa_cons (pe_ix (ix_seqK K) (pv 0) pe_int (fun _ _ => rfl)) pa_nil)))))))) (pss_one (ps_ret pe_bl))
     pss_nil)
    (pss_one (ps_ret (pe_and (pe_callB (isiK K) (by rfl) T.n_isinstance (by decide +kernel) (pa_cons (pe_ix (ix_seqK K) (pv 0) pe_int (fun _ _ => rfl)) (pa_cons (pe_bltn (v := .ty "str") (u := .type "str") (by rfl) T.n_str (by decide +kernel) rfl) pa_nil))) (pe_one (pe_cmpR (inSeqK K) (pe_ix (ix_seqK K) (pv 0) pe_int (fun _ _ => rfl)) (pv 1) rfl)))))), ?_⟩
    refine ⟨_, rfl, c, rfl, hc.imp (fun z => ⟨_, z⟩) (fun z => ⟨_, z⟩), fun H1 sm1 => ⟨_, rfl, iteF ?_⟩⟩
    have hc1 := hc.same sm1
    refine ⟨_, rfl, .ref c, 2, rfl, hc1.len, rfl, _, rfl, iteF ?_⟩
    refine ⟨_, rfl, hc1.ix0 ⟨g, rfl, hg, fun H2 sm2 => ⟨_, rfl, iteF ?_⟩⟩⟩
    have hc2 := hc1.same sm2
    refine ⟨_, rfl, hc2.ix1 ⟨_, _, .type "str", .type "str", true, rfl, .ty _, .base (.str d), rfl, _, rfl, ?_⟩⟩
    refine ⟨_, rfl, hc2.ix1 ⟨_, rfl, q, _, rfl, .inl (Same.seq sm2 (Same.seq sm1 hq)), rfl, flat_strs S, ?_⟩⟩
    have e : inV (V.str d) (S.map V.str) = true := by rw [inV_strs]; exact decide_eq_true hd
    show Q (.bl (inV (V.str d) (S.map V.str))) H2
    rw [e]
    exact k _ fun b o e => sm2 b o (sm1 b o e)
def spStateRow (K : PySem.W.Frag) : Sp := fun vs H Q _ => ∃ (r l q : Addr) (g d : Str → Str) (t : Str → Addr) (Ls L S : List Str), vs = [.ref r, .ref l, .ref q] ∧ H r = some (.dK (tab Ls fun a => .ref (t a))) ∧ Ls.Perm L ∧ L ≠ [] ∧ L.length ≤ 8 ∧
  SqL K H l (L.map V.str) ∧ SqL K H q (S.map V.str) ∧ S.length ≤ 8 ∧ (∀ a ∈ L, Cell H (t a) (.str (g a)) (.str (d a)) ∧ Nm (g a) ∧ d a ∈ S) ∧ ∀ H', Same H H' → Q (.bl true) H'
abbrev sc_is_state_row_st : Stmt := top 39
abbrev sc_is_state_row_N : List Str := ["thing", "letters", "states", "letter"]
theorem sc_is_state_row : FnScope sc_is_state_row_N ["thing", "letters", "states"] (C8.fnScope sc_is_state_row_st) := C8.fnScope_by (by decide +kernel)
theorem c_is_state_row (T : Txt K mg) (D : Dfn K mg "is_state_row" sc_is_state_row_st ["thing", "letters", "states"]) (c_is_box_move : Call1 P w K mg base 2 "is_box_move" (spBoxMove K)) : Call1 P w K mg base 3 "is_state_row" (spStateRow K) := by
  refine D.cal sc_is_state_row (fun vs H Q E h => ?_) (fun f cdv A outer s H vs Q E hr h => ?_)
  · obtain ⟨r, l, q, g, d, t, Ls, L, S, rfl, _⟩ := h
    rfl
  · obtain ⟨r, l, q, g, d, t, Ls, L, S, rfl, hr0, pm, hL0, hL8, hl, hq, hS, hc, k⟩ := h
    have hu := hu_of hr
    refine ⟨_, (pss_cons (ps_if (PW.pt (pw_or (pt_not (pt_val (pe_callB (isiK K) (by rfl) T.n_isinstance (by decide +kernel) (pa_cons (pv 0) (pa_cons (pe_bltn (v := .ty "dict") (u := .type "dict") (by rfl) T.n_dict (by decide +kernel) rfl) pa_nil))))) (pw_or (pt_cmpR op_ne (pe_callB call_lenD (by rfl) T.n_len (by decide +kernel) (pa_cons (pv 0) pa_nil)) (pe_callB (lenK K) (by rfl) T.n_len (by decide +kernel) (pa_cons (pv 1) pa_nil)) (nomark _)) (pw_or1 (pt_cmpR op_eq (pe_callB (lenK K) (by rfl) T.n_len (by decide +kernel) (pa_cons (pv 1) pa_nil)) pe_int (nomark _)))))) (pss_one (ps_ret pe_bl))
     pss_nil)
    (pss_one (ps_ret (pe_callB (allK K rfl) (by rfl) T.n_all (by decide +kernel) (pa_cons (pe_lc (own := [("letter", 3)]) (g := (gName 3)) (tt := tYes) rfl sc_is_state_row.nd (listI K (pv 1)) (blkOk_by (N := sc_is_state_row_N) (sc := C8.fnScope sc_is_state_row_st) (by decide +kernel)) (fun _ _ _ _ _ => (pg_name (i := 3) sc_is_state_row.nd rfl (by first | exact Or.inl rfl | exact Or.inr rfl))) (fun _ _ _ _ _ => pts_nil) (fun _ _ _ _ _ => (pe_and (pe_cmp (pc_din hu (pv 3) (pv 0)) rfl) (pe_one (C8.pe_c c_is_box_move hr (by decide) (by rfl) (pa_cons (pe_dget hu (pv 0) (pv 3) (fun _ _ => rfl)) (pa_cons (pv 2) pa_nil))))))) pa_nil))))), ?_⟩
    refine ⟨_, rfl, _, _, .type "dict", .type "dict", true, rfl, .ty _, .base (.dK hr0), rfl, _, rfl, iteF ?_⟩
    have el : Ls.length = L.length := pm.length_eq
    refine ⟨_, rfl, r, _, rfl, hr0, _, rfl, .ref l, L.length, rfl, .inl ⟨_, hl, by rw [List.length_map]⟩, rfl, _, rfl, ?_⟩
    refine iteNS (by rw [tab_len, el]) ?_
    refine ⟨_, rfl, .ref l, L.length, rfl, .inl ⟨_, hl, by rw [List.length_map]⟩, rfl, _, rfl, ?_⟩
    refine iteDF (fun e => hL0 (List.eq_nil_of_length_eq_zero (by injection e with e; omega))) ?_
    refine ⟨_, rfl, l, rfl, ⟨_, hl⟩, fun Dn hD => ?_⟩
    refine lc_list (K := K) (a := l) (xs := L.map V.str) (fun j H2 => H2 Dn = some (.lst ((List.replicate j true).map V.bl)) ∧ Same H H2) ⟨upd_same, same_upd hD⟩ (fun i H2 _ h => Same.seq h.2 hl) ?_ ?_
    · rintro i x H2 hi ⟨g2, sm⟩
      obtain ⟨a, ha, rfl⟩ := str_at hi
      have haL := List.mem_of_getElem? ha
      have hb := hc a haL
      have hin : valV (tab Ls fun a => V.ref (t a)) (Sum.inr a : Key) = some (.ref (t a)) := tab_in (pm.mem_iff.mpr haL)
      have hr2 := sm _ _ hr0
      refine ⟨rfl, _, rfl, _, rfl, r, _, rfl, DGet.k (k := Sum.inr a) hr2, _, rfl, ?_⟩
      rw [hin]
      refine ⟨_, rfl, _, rfl, r, _, rfl, .inl ⟨_, Sum.inr a, .inl hr2, rfl, hin.symm⟩, _, rfl, t a, q, g a, d a, S, rfl, hb.1.same sm, hb.2.1, hb.2.2, hS, Same.seq sm hq, fun H3 sm3 => ⟨_, sm3 _ _ g2, small1000 ?_, ?_, ?_⟩⟩
      · rw [List.length_map, List.length_replicate]
        have := (List.getElem?_eq_some_iff.mp ha).1
        omega
      · rw [upd_same, List.replicate_succ', List.map_append]; rfl
      · exact fun b o e => by rw [upd_ne (ne_of_none e hD)]; exact sm3 b o (sm b o e)
    · rintro H2 ⟨g2, sm⟩
      exact ⟨Dn, _, rfl, SqL.of g2, by rw [all_trues]; exact k _ sm⟩
end
end K45
end
section
set_option maxRecDepth 100000
set_option maxHeartbeats 4000000
namespace K45
open PySem PySem.Spec L2
section
variable {J : It} {n : Nat} {G : Hp → Prop} {Y : Nat → Hp → V → Hp → Prop}
/-- a dict comprehension over a walk -/
theorem dc_it (w : Walk J n G Y) {g : TG} {tt : TT} {tk tv : TE} {vs : List Nat} {σ : L2.St} {H1 : Hp} {D : Addr} {Qd : Hp → Prop} (Pv : Nat → Hp → Prop) (h0 : Pv 0 (upd H1 D (.dK []))) (hG : ∀ i H, i ≤ n → Pv i H → G H)
    (hs : ∀ i x H H', i < n → Pv i H → Y i H x H' → g x (wipe σ vs) H' fun σ2 H2 => wipe σ2 vs = wipe σ vs ∧ tt σ2 H2 fun b H3 =>
      if b = true then tk σ2 H3 fun y H4 => tv σ2 H4 fun z H5 => ∃ kvs k, y = kV k ∧ H5 D = some (.dK kvs) ∧ kvs.length < sizeLine ∧ Pv (i + 1) (upd H5 D (.dK (putK kvs k z))) else Pv (i + 1) H3) (hd : ∀ H, Pv n H → Qd H) :
    ∃ W : Nat → Nat → Hp → Prop, (∃ m, W 0 m (upd H1 D (.dK []))) ∧ ∀ i m H, W i m H →
      (J.stop i H ∧ Qd H) ∨ (J.go i H ∧ ∃ Nx : Hp → Prop, (∀ H', Nx H' → ∃ m', m' < m ∧ W (i + 1) m' H') ∧ ∀ x H', J.yld i H x H' → g x (wipe σ vs) H' fun σ2 H2 => wipe σ2 vs = wipe σ vs ∧ tt σ2 H2 fun b H3 =>
        if b = true then tk σ2 H3 fun y H4 => tv σ2 H4 fun z H5 => ∃ kvs k, y = kV k ∧ H5 D = some (.dK kvs) ∧ kvs.length < sizeLine ∧ Nx (upd H5 D (.dK (putK kvs k z))) else Nx H3) := by
  refine ⟨fun i m H => m = n - i ∧ i ≤ n ∧ Pv i H, ⟨n, by simp, Nat.zero_le _, h0⟩, ?_⟩
  rintro i m H ⟨rfl, hi, p⟩
  have q := hG i H hi p
  by_cases hlt : i < n
  · refine .inr ⟨w.goes i H hlt q, Pv (i + 1), fun H' p' => ⟨n - (i + 1), by omega, rfl, hlt, p'⟩, fun x H' y => hs i x H H' hlt p (w.yields i H x H' hlt q y)⟩
  · have e : i = n := by omega
    subst e
    exact .inl ⟨w.stops H q, hd H p⟩
end
theorem MvG.ne {H : Hp} {m : Addr} {M : Mch} {r : Str → Addr} {t : Str → Str → Addr} {Ls : Str → List Str} (hm : H m = some (.dK (tab M.S fun s => .ref (r s)))) (h : MvG H m M r t Ls) (ok : M.Ok) : (∀ s ∈ M.S, r s ≠ m) ∧ ∀ s ∈ M.S, ∀ a ∈ M.L, t s a ≠ m := by
  have nc : ∀ s ∈ M.S, ∀ a ∈ M.L, ∀ kvs : List (Key × V), H (t s a) ≠ some (.dK kvs) := fun s hs a ha kvs e => by
    rcases h.cel s hs a ha with z | z
    · rw [z] at e; cases e
    · rw [z] at e; cases e
  refine ⟨fun s hs e => ?_, fun s hs a ha e => nc s hs a ha _ (by rw [e]; exact hm)⟩
  have h2 := h.row s hs
  rw [e, hm] at h2
  obtain ⟨s0, S', eS⟩ := List.exists_cons_of_ne_nil ok.s0
  have hs0 : s0 ∈ M.S := by rw [eS]; simp
  have h3 : tab M.S (fun s => V.ref (r s)) = tab (Ls s) (fun a => V.ref (t s a)) := HO.dK.inj (Option.some.inj h2)
  cases eL : Ls s with
  | nil => rw [eS, eL] at h3; simp [tab] at h3
  | cons a0 L' =>
    rw [eS, eL] at h3
    have h4 := (Prod.mk.inj (List.cons.inj h3).1).2
    have ha0 : a0 ∈ M.L := (h.per s hs).mem_iff.mp (by rw [eL]; simp)
    refine nc s hs a0 ha0 (tab (Ls s0) fun a => .ref (t s0 a)) ?_
    rw [← V.ref.inj h4]
    exact h.row s0 hs0
theorem MvG.lock {H : Hp} {m : Addr} {M : Mch} {r : Str → Addr} {t : Str → Str → Addr} {Ls : Str → List Str} (h : MvG H m M r t Ls) (hm : H m = some (.dK (tab M.S fun s => .ref (r s)))) (ok : M.Ok) (o : Obj) : MvG (upd H m (.frz o (.dK (tab M.S fun s => .ref (r s))))) m M r t Ls := by
  have n := h.ne hm ok
  refine ⟨.inr ⟨o, upd_same⟩, fun s hs => ?_, h.per, h.fst, fun s hs a ha => ?_⟩
  · rw [upd_ne (n.1 s hs)]; exact h.row s hs
  · rw [upd_ne (n.2 s hs a ha)]; exact h.cel s hs a ha
theorem Same.tr {H H1 H2 : Hp} (a : Same H H1) (b : Same H1 H2) : Same H H2 := fun c o h => b c o (a c o h)
section
variable {P : Program} {w : World} {K : PySem.W.Frag} {mg : Str → Option Value} {base : Heap}
def spChecked : Sp := fun vs H Q _ => ∃ (m : Addr) (M : Mch) (r : Str → Addr) (t : Str → Str → Addr) (Ls : Str → List Str), vs = [.ref m] ∧ H m = some (.dK (tab M.S fun s => .ref (r s))) ∧ MvG H m M r t Ls ∧ M.Ok ∧
  ∀ (l : Addr) (H' : Hp) (r' : Str → Addr) (t' : Str → Str → Addr), Mv0 H' l M r' t' → Same H H' → Q (.ref l) H'
abbrev sc_checked_moves_st : Stmt := top 40
abbrev sc_checked_moves_N : List Str := ["moves", "letters", "states", "state", "letter"]
theorem sc_checked_moves : FnScope sc_checked_moves_N ["moves"] (C8.fnScope sc_checked_moves_st) := C8.fnScope_by (by decide +kernel)
theorem c_checked_moves (T : Txt K mg) (D : Dfn K mg "checked_moves" sc_checked_moves_st ["moves"]) (c_is_name : Call1 P w K mg base 1 "is_name" spIsName) (c_letters_of_box : Call1 P w K mg base 2 "letters_of_box" spLetBox) (c_is_state_row : Call1 P w K mg base 3 "is_state_row" (spStateRow K)) : Call1 P w K mg base 4 "checked_moves" spChecked := by
  refine D.cal sc_checked_moves (fun vs H Q E h => ?_) (fun f cdv A outer s H vs Q E hr h => ?_)
  · obtain ⟨m, M, r, t, Ls, rfl, _⟩ := h
    rfl
  · obtain ⟨m, M, r, t, Ls, rfl, hm, G, ok, k⟩ := h
    have hu := hu_of hr
    refine ⟨_, (pss_cons (ps_if (PW.pt (pw_or (pt_not (pt_val (pe_callB (isiK K) (by rfl) T.n_isinstance (by decide +kernel) (pa_cons (pv 0) (pa_cons (pe_bltn (v := .ty "dict") (u := .type "dict") (by rfl) T.n_dict (by decide +kernel) rfl) pa_nil))))) (pw_or1 (pt_cmpR op_eq (pe_callB call_lenD (by rfl) T.n_len (by decide +kernel) (pa_cons (pv 0) pa_nil)) pe_int (nomark _))))) (pss_one ps_never)
     pss_nil)
    (pss_cons (ps_asg (pe_tup (pa_cons (C8.pe_c c_letters_of_box hr (by decide) (by rfl) (pa_cons (pv 0) pa_nil)) (pa_cons (pe_lock (pe_lc (own := [("state", 3)]) (g := (gName 3)) rfl sc_checked_moves.nd (pi_keys (pv 0)) (blkOk_by (N := sc_checked_moves_N) (sc := C8.fnScope sc_checked_moves_st) (by decide +kernel)) (fun _ _ _ _ _ => (pg_name (i := 3) sc_checked_moves.nd rfl (by first | exact Or.inl rfl | exact Or.inr rfl))) (fun _ _ _ _ _ => (pts_one (pt_val (C8.pe_c c_is_name hr (by decide) (by rfl) (pa_cons (pv 3) pa_nil))))) (fun _ _ _ _ _ => (pv 3)))) pa_nil))) (tupG K rfl (pgs_cons (pg_name (i := 1) sc_checked_moves.nd rfl (by first | exact Or.inl rfl | exact Or.inr rfl)) (pgs_cons (pg_name (i := 2) sc_checked_moves.nd rfl (by first | exact Or.inl rfl | exact Or.inr rfl)) pgs_nil))))
    (pss_cons (ps_lock (ps_for PassesOwn.never rfl (pi_keys (pv 0)) (pg_name (i := 3) sc_checked_moves.nd rfl (by first | exact Or.inl rfl | exact Or.inr rfl))
     (pss_one (ps_if (PW.pt (pw_or (pt_not (pt_val (C8.pe_c c_is_name hr (by decide) (by rfl) (pa_cons (pv 3) pa_nil)))) (pw_or1 (pt_not (pt_val (C8.pe_c c_is_state_row hr (by decide) (by rfl) (pa_cons (pe_dget hu (pv 0) (pv 3) (fun _ _ => rfl)) (pa_cons (pv 1) (pa_cons (pv 2) pa_nil))))))))) (pss_one ps_never)
       pss_nil))))
    (pss_one (ps_ret (pe_lock (pe_dc (own := [("state", 3)]) (g := (gName 3)) (tt := tYes) rfl sc_checked_moves.nd (pi_keys (pv 0)) (blkOk_by (N := sc_checked_moves_N) (sc := C8.fnScope sc_checked_moves_st) (by decide +kernel)) (fun _ _ _ _ _ => (pg_name (i := 3) sc_checked_moves.nd rfl (by first | exact Or.inl rfl | exact Or.inr rfl))) (fun _ _ _ _ _ => pts_nil) (fun _ _ _ _ _ => (pv 3)) (fun _ _ _ _ _ => (pe_dc (own := [("letter", 4)]) (g := (gName 4)) (tt := tYes) rfl sc_checked_moves.nd (listI K (pv 1)) (blkOk_by (N := sc_checked_moves_N) (sc := ({ kind := ScopeKind.function, names := [(Str.ofString ".0", NameKind.local), (Str.ofString "state", NameKind.cell), (Str.ofString "letters", NameKind.cell), (Str.ofString "moves", NameKind.cell)], isGenerator := false, isCoroutine := false } : Scope)) (by decide +kernel)) (fun _ _ _ _ _ => (pg_name (i := 4) sc_checked_moves.nd rfl (by first | exact Or.inl rfl | exact Or.inr rfl))) (fun _ _ _ _ _ => pts_nil) (fun _ _ _ _ _ => (pv 4)) (fun _ _ _ _ _ => (pe_callTy (tupleK K) (by rfl) T.n_tuple (by decide +kernel) (pa_cons (pe_dget hu (pe_dget hu (pv 0) (pv 3) (fun _ _ => rfl)) (pv 4) (fun _ _ => rfl)) pa_nil)))))))))))), ?_⟩
    refine ⟨_, rfl, _, _, .type "dict", .type "dict", true, rfl, .ty _, .base (.dK hm), rfl, _, rfl, iteF ?_⟩
    refine ⟨_, rfl, m, _, rfl, hm, rfl, _, rfl, ?_⟩
    refine iteDF (fun e => ok.s0 (List.eq_nil_of_length_eq_zero (by injection e with e; rw [tab_len] at e; omega))) ?_
    refine ⟨_, rfl, m, M, r, t, Ls, rfl, G, ok, fun ll H1 hll gl1 sm1 => ?_⟩
    have hm1 := sm1 _ _ hm
    refine ⟨m, _, hm1, True.intro, fun od => ⟨_, rfl, m, od, rfl, .inl ⟨_, upd_same, fun Dn hD => ?_⟩⟩⟩
    have fD := lock_free hD
    refine lc_it walk_keys (fun j H2 => H2 Dn = some (.lst ((M.S.take j).map V.str)) ∧ Same (upd H1 m (.frz od (.dK (tab M.S fun s => .ref (r s))))) H2) ⟨upd_same, same_upd hD⟩ (fun _ _ _ h => h.2 _ _ upd_same) ?_ ?_
    · rintro i x H2 H3 hi ⟨g2, sm⟩ ⟨rfl, kk, vv, hkv, rfl⟩
      obtain ⟨y, hy, rfl, rfl⟩ := tab_get hkv
      refine ⟨rfl, _, rfl, y, rfl, ok.sm y (List.mem_of_getElem? hy), fun H4 sm4 => ⟨_, rfl, _, rfl, _, sm4 _ _ g2, small1000 ?_, ?_, ?_⟩⟩
      · rw [List.length_map, List.length_take]
        have := ok.sf
        omega
      · rw [upd_same, take_snoc hy, List.map_append]; rfl
      · exact fun b o e => by rw [upd_ne (ne_of_none e hD)]; exact sm4 b o (sm b o e)
    rintro H2 ⟨g2, sm⟩
    have s2 := same_unlock hm1 sm
    rw [tab_len, List.take_length] at g2
    refine ⟨sm _ _ upd_same, sz_le (by show 2 ≤ 1000; decide), fun p hp => ⟨_, _, rfl, SqT.of upd_same, rfl, _, _, rfl, _, _, rfl, rfl, ?_⟩⟩
    -- the loop that looks at the rows
    have s4 : Same H1 (upd (upd H2 m (.dK (tab M.S fun s => .ref (r s)))) p (.tup [.ref ll, .ref Dn])) := same_upd2 s2 (Same.free s2 hp)
    have gD4 : (upd (upd H2 m (.dK (tab M.S fun s => .ref (r s)))) p (.tup [.ref ll, .ref Dn])) Dn = some (.lst (M.S.map V.str)) := by
      have g3 : (upd H2 m (.dK (tab M.S fun s => .ref (r s)))) Dn = some (.lst (M.S.map V.str)) := by rw [upd_ne fD.1]; exact g2
      rw [upd_ne (ne_of_none g3 hp)]
      exact g3
    generalize upd (upd H2 m (.dK (tab M.S fun s => .ref (r s)))) p (.tup [.ref ll, .ref Dn]) = H4 at s4 gD4
    have hm4 := s4 _ _ hm1
    have G4 := (G.same sm1).same s4
    refine ⟨m, _, hm4, True.intro, fun od2 => ⟨_, rfl, m, od2, rfl, .inl ⟨_, upd_same, ?_⟩⟩⟩
    have GL := G4.lock hm4 ok od2
    have lD : (upd H4 m (.frz od2 (.dK (tab M.S fun s => .ref (r s))))) Dn = some (.lst (M.S.map V.str)) := by rw [upd_ne fD.1]; exact gD4
    have nl : ll ≠ m := ne_of gl1 hm1 (by intro z; cases z)
    have ll4 : (upd H4 m (.frz od2 (.dK (tab M.S fun s => .ref (r s))))) ll = some (.lst (M.L.map V.str)) := by rw [upd_ne nl]; exact s4 _ _ gl1
    refine for_it walk_keys (fun i σ H5 => ∃ v : Option V, σ = [some (.ref m), some (.ref ll), some (.ref Dn), v, none] ∧ Same (upd H4 m (.frz od2 (.dK (tab M.S fun s => .ref (r s))))) H5) ⟨_, rfl, fun _ _ e => e⟩ (fun i σ H5 _ ⟨_, _, sm⟩ => sm _ _ upd_same) ?_ ?_
    · rintro i x σ H5 H6 hi ⟨v, rfl, sm5⟩ ⟨rfl, kk, vv, hkv, rfl⟩
      obtain ⟨y, hy, rfl, rfl⟩ := tab_get hkv
      have hyS := List.mem_of_getElem? hy
      refine ⟨_, rfl, y, rfl, ok.sm y hyS, fun H7 sm7 => ⟨_, rfl, iteF ?_⟩⟩
      have G7 := (GL.same sm5).same sm7
      have sL7 := Same.tr sm5 sm7
      refine ⟨_, rfl, _, rfl, m, _, rfl, .inl ⟨_, Sum.inr y, G7.top, rfl, (tab_in hyS).symm⟩, _, rfl, _, rfl, r y, ll, Dn, M.g y, M.d y, t y, Ls y, M.L, M.S, rfl, G7.row y hyS, G7.per y hyS, ok.l0, ok.lf, SqL.of (sL7 _ _ ll4), SqL.of (sL7 _ _ lD), ok.sf,
        fun a ha => ⟨G7.cel y hyS a ha, ok.sg y hyS a ha, ok.st y hyS a ha⟩, fun H8 sm8 => ⟨_, rfl, iteF ⟨_, rfl, Same.tr sL7 sm8⟩⟩⟩
    rintro σ H5 ⟨v, rfl, sm5⟩
    refine ⟨sm5 _ _ upd_same, ?_⟩
    have s6 := same_unlock hm4 sm5
    generalize upd H5 m (.dK (tab M.S fun s => .ref (r s))) = H6 at s6
    have hm6 := s6 _ _ hm4
    have G6 := G4.same s6
    have gl6 := s6 _ _ (s4 _ _ gl1)
    refine ⟨m, _, hm6, True.intro, fun od3 => ⟨_, rfl, m, od3, rfl, .inl ⟨_, upd_same, fun E1 hE => ?_⟩⟩⟩
    have fE := lock_free hE
    have GL6 := G6.lock hm6 ok od3
    have llL : (upd H6 m (.frz od3 (.dK (tab M.S fun s => .ref (r s))))) ll = some (.lst (M.L.map V.str)) := by rw [upd_ne nl]; exact gl6
    refine dc_it walk_keys (fun j H7 => ∃ (r' : Str → Addr) (t' : Str → Str → Addr), H7 E1 = some (.dK (tab (M.S.take j) fun s => .ref (r' s))) ∧ (∀ s ∈ M.S.take j, r' s ≠ E1 ∧ H7 (r' s) = some (.dK (tab M.L fun a => .ref (t' s a))) ∧ ∀ a ∈ M.L, H7 (t' s a) = some (.tup [.str (M.g s a), .str (M.d s a)])) ∧
      Same (upd H6 m (.frz od3 (.dK (tab M.S fun s => .ref (r s))))) H7) ⟨fun _ => 0, fun _ _ => 0, upd_same, fun s hs => absurd hs (by simp), same_upd hE⟩ (fun _ _ _ ⟨_, _, _, _, h⟩ => h _ _ upd_same) ?_ ?_
    · rintro i x H7 H8 hi ⟨r', t', gE, rows, sm⟩ ⟨rfl, kk, vv, hkv, rfl⟩
      obtain ⟨y, hy, rfl, rfl⟩ := tab_get hkv
      have hyS := List.mem_of_getElem? hy
      refine ⟨rfl, _, rfl, _, rfl, ll, rfl, ⟨_, SqL.of (sm _ _ llL)⟩, fun F1 hF => ?_⟩
      refine dc_it walk_list (fun i H9 => ∃ ti : Str → Addr, H9 F1 = some (.dK (tab (M.L.take i) fun a => .ref (ti a))) ∧ (∀ a ∈ M.L.take i, H9 (ti a) = some (.tup [.str (M.g y a), .str (M.d y a)])) ∧ Same H8 H9) ⟨fun _ => 0, upd_same, fun s hs => absurd hs (by simp), same_upd hF⟩
        (fun _ _ _ ⟨_, _, _, h⟩ => SqL.of (h _ _ (sm _ _ llL))) ?_ ?_
      · rintro j x H9 HA hj ⟨ti, gF, cels, sm9⟩ ⟨rfl, hx⟩
        obtain ⟨a, ha, rfl⟩ := str_at hx
        have haL := List.mem_of_getElem? ha
        have G9 := (GL6.same sm).same sm9
        have hinr : valV (tab (Ls y) fun a => V.ref (t y a)) (Sum.inr a : Key) = some (.ref (t y a)) := tab_in ((G9.per y hyS).mem_iff.mpr haL)
        have fin : ∀ (c : Addr) (HB : Hp), HB c = some (.tup [.str (M.g y a), .str (M.d y a)]) → Same HA HB → ∃ (kvs : List (Key × V)) (k : Key), V.str a = kV k ∧ HB F1 = some (.dK kvs) ∧ kvs.length < sizeLine ∧
            ∃ ti : Str → Addr, (upd HB F1 (.dK (putK kvs k (.ref c)))) F1 = some (.dK (tab (M.L.take (j + 1)) fun a => .ref (ti a))) ∧ (∀ a ∈ M.L.take (j + 1), (upd HB F1 (.dK (putK kvs k (.ref c)))) (ti a) = some (.tup [.str (M.g y a), .str (M.d y a)])) ∧ Same H8 (upd HB F1 (.dK (putK kvs k (.ref c)))) := by
          intro c HB hc smB
          refine ⟨_, Sum.inr a, rfl, smB _ _ gF, small1000 ?_, ?_⟩
          · rw [tab_len, List.length_take]
            have := ok.lf
            omega
          · refine ⟨fun b => if b = a then c else ti b, ?_, fun b hb => ?_, fun b o e => by rw [upd_ne (ne_of_none e hF)]; exact smB b o (sm9 b o e)⟩
            · rw [upd_same, tab_new (nodup_take ok.ln ha), take_snoc ha]
              refine congrArg (fun l => some (HO.dK l)) (tab_congr fun b hb => ?_)
              by_cases e : b = a <;> simp [e]
            · have key : ∀ q xs, HB q = some (.tup xs) → upd HB F1 (.dK (putK (tab (M.L.take j) fun a => .ref (ti a)) (Sum.inr a : Key) (.ref c))) q = some (.tup xs) := fun q xs e => by
                rw [upd_ne (ne_of e (smB _ _ gF) (by intro z; cases z))]; exact e
              rw [take_snoc ha, List.mem_append, List.mem_singleton] at hb
              by_cases e : b = a
              · subst e
                simp only [if_true]
                exact key _ _ hc
              · simp only [e, if_false]
                exact key _ _ (smB _ _ (cels b (hb.resolve_right e)))
        refine ⟨rfl, _, rfl, _, rfl, _, rfl, m, _, rfl, .inl ⟨_, Sum.inr y, G9.top, rfl, (tab_in hyS).symm⟩, _, rfl, r y, _, rfl, .inl ⟨_, Sum.inr a, .inl (G9.row y hyS), rfl, hinr.symm⟩, t y a, [.str (M.g y a), .str (M.d y a)], rfl, ?_⟩
        exact (G9.cel y hyS a haL).elim (fun z => .inl ⟨SqL.of z, fun l hl => fin l _ upd_same (same_upd hl)⟩) (fun z => .inr ⟨SqT.of z, fin _ _ z (fun _ _ e => e)⟩)
      · rintro H9 ⟨ti, gF, cels, sm9⟩
        rw [List.length_map, List.take_length] at gF cels
        have nFE : F1 ≠ E1 := (ne_of_none gE hF).symm
        refine ⟨_, Sum.inr y, rfl, sm9 _ _ gE, small1000 ?_, ?_⟩
        · rw [tab_len, List.length_take]
          have := ok.sf
          omega
        · have ny := nodup_take ok.sn hy
          have key : ∀ q o, H9 q = some o → q ≠ E1 → upd H9 E1 (.dK (putK (tab (M.S.take i) fun s => .ref (r' s)) (Sum.inr y : Key) (.ref F1))) q = some o := fun q o e n => by rw [upd_ne n]; exact e
          have keyT : ∀ q xs, H9 q = some (.tup xs) → upd H9 E1 (.dK (putK (tab (M.S.take i) fun s => .ref (r' s)) (Sum.inr y : Key) (.ref F1))) q = some (.tup xs) := fun q xs e => key _ _ e (ne_of e (sm9 _ _ gE) (by intro z; cases z))
          refine ⟨fun s => if s = y then F1 else r' s, fun s a => if s = y then ti a else t' s a, ?_, fun s hs => ?_, fun b o e => by rw [upd_ne (ne_of_none e hE)]; exact sm9 b o (sm b o e)⟩
          · rw [upd_same, tab_new ny, take_snoc hy]
            refine congrArg (fun l => some (HO.dK l)) (tab_congr fun b hb => ?_)
            by_cases e : b = y <;> simp [e]
          · rw [take_snoc hy, List.mem_append, List.mem_singleton] at hs
            by_cases e : s = y
            · subst e
              simp only [if_true]
              exact ⟨nFE, key _ _ gF nFE, fun a ha => keyT _ _ (cels a ha)⟩
            · simp only [e, if_false]
              obtain ⟨h1, h2, h3⟩ := rows s (hs.resolve_right e)
              exact ⟨h1, key _ _ (sm9 _ _ h2) h1, fun a ha => keyT _ _ (sm9 _ _ (h3 a ha))⟩
    · rintro H7 ⟨r', t', gE, rows, sm⟩
      rw [tab_len, List.take_length] at gE rows
      have s7 := same_unlock hm6 sm
      have k7 : ∀ q o, H7 q = some o → q ≠ m → (upd H7 m (.dK (tab M.S fun s => .ref (r s)))) q = some o := fun q o e n => by rw [upd_ne n]; exact e
      have hm7 := sm _ _ upd_same
      refine ⟨hm7, k E1 _ r' t' ⟨k7 _ _ gE fE.1, fun s hs => k7 _ _ (rows s hs).2.1 (ne_of (rows s hs).2.1 hm7 (by intro z; cases z)), fun s hs a ha => k7 _ _ ((rows s hs).2.2 a ha) (ne_of ((rows s hs).2.2 a ha) hm7 (by intro z; cases z))⟩ ?_⟩
      exact Same.tr sm1 (Same.tr s4 (Same.tr s6 s7))
end
end K45
end
section
set_option maxRecDepth 100000
set_option maxHeartbeats 4000000
namespace K45
open PySem PySem.Spec L2
theorem pi_or {X : Cx} {tg e : Expr} {w1 w2 : TI} (h1 : PI X tg e w1) (h2 : PI X tg e w2) : PI X tg e (fun σ H R => w1 σ H R ∨ w2 σ H R) :=
  ⟨fun pins s σ H R I h => h.elim (h1.run pins s σ H R I) (h2.run pins s σ H R I)⟩
/-! ## boxes -/
structure CTxt (K : PySem.W.Frag) (C : Addr) : Prop where
  cl : Cls K C
  nM : NoAttr K C "own_moves"
  nA : NoAttr K C "own_asks"
/-- a box of the moves M -/
def BoxAt (C : Addr) (H : Hp) (b : Addr) (M : Mch) : Prop := ∃ (dx m : Addr) (fs : List (Str × V)), H b = some (.ins C dx fs) ∧ fs.lookup ("own_moves" : Str) = some (.ref m) ∧ (∀ f : Str, ¬ f = "own_moves" → ¬ f = "own_asks" → fs.lookup f = none) ∧ MvAt H m M
theorem BoxAt.same {C : Addr} {H H' : Hp} {b : Addr} {M : Mch} (h : BoxAt C H b M) (s : Same H H') : BoxAt C H' b M := by
  obtain ⟨dx, m, fs, h1, h2, h3, h4⟩ := h
  exact ⟨dx, m, fs, s _ _ h1, h2, h3, h4.same s⟩
section
variable {P : Program} {w : World} {K : PySem.W.Frag} {mg : Str → Option Value} {base : Heap} {C : Addr}
/-- what a method is by the top -/
structure MDfn (K : PySem.W.Frag) (C : Addr) (m qual : Str) (st : Stmt) (ps : List Str) : Prop where
  ex : ∃ (f : Addr) (fd : FuncData), Meth K C m f ∧ C8.Fun K m qual st f fd ∧ Binds K fd ps []
abbrev Met1 (P : Program) (w : World) (K : PySem.W.Frag) (mg : Str → Option Value) (base : Heap) (C : Addr) (k : Nat) (m : Str) (sp : Sp) : Prop := C8.Met P w K mg base k C m sp []
theorem MDfn.met {m qual : Str} {st : Stmt} {N ps : List Str} {k : Nat} {sp : Sp} (D : MDfn K C m qual st ps) (c : CTxt K C) (S : FnScope N ps (C8.fnScope st)) (len : ∀ vs H Q E, sp vs H Q E → vs.length = ps.length)
    (hbody : ∀ (f : Addr) (cdv : Value) (A : Around) (outer : List Env) (s : Shared) (H : Hp) (vs : List V) (Q : VK) (E : XK), Room k (A.deeper (PyProof.Rows.envOfC qual (C8.fnScope st) s.heap.objs.size f cdv)) → sp vs H Q E →
      ∃ t, PSs (cxOf C8.CX0 P w K mg base N qual (C8.fnScope st) f cdv A outer s H E).nox (C8.fnBody st) t ∧ t { nx := fun _ H' => Q .non H', rt := Q } (start N vs) H) : Met1 P w K mg base C (k + 1) m sp := by
  obtain ⟨f, fd, me, F, b⟩ := D.ex
  exact C8.met0 c.cl me F b S len fun cdv A outer s H vs Q E => hbody f cdv A outer s H vs Q E
def spStates (C : Addr) : Sp := fun vs H Q _ => ∃ (b : Addr) (M : Mch), vs = [.ref b] ∧ BoxAt C H b M ∧ M.Ok ∧ ∀ (l : Addr) (H' : Hp), H l = none → H' l = some (.lst (M.S.map V.str)) → Same H H' → Q (.ref l) H'
abbrev sc_Box_states_st : Stmt := inClass (top 45) 2
abbrev sc_Box_states_N : List Str := ["self"]
theorem sc_Box_states : FnScope sc_Box_states_N ["self"] (C8.fnScope sc_Box_states_st) := C8.fnScope_by (by decide +kernel)
theorem m_states (T : Txt K mg) (c : CTxt K C) (D : MDfn K C "states" "Box.states" sc_Box_states_st ["self"]) : Met1 P w K mg base C 1 "states" (spStates C) := by
  refine D.met c sc_Box_states (fun vs H Q E h => ?_) (fun f cdv A outer s H vs Q E hr h => ?_)
  · obtain ⟨b, M, rfl, _⟩ := h
    rfl
  · obtain ⟨b, M, rfl, ⟨dx, m, fs, h1, h2, h3, r, t, h4, h5⟩, ok, k⟩ := h
    refine ⟨_, (pss_one (ps_ret (pe_callTy (call_listD rfl) (by rfl) T.n_list (by decide +kernel) (pa_cons (fldK K (pv 0) rfl) pa_nil)))), ?_⟩
    refine ⟨_, rfl, b, C, dx, fs, _, rfl, h1, c.cl, c.nM, h2, m, _, rfl, h4, fun l hl => ?_⟩
    rw [tab_keys]
    exact k l _ hl upd_same (same_upd hl)
def spLetters (C : Addr) : Sp := fun vs H Q _ => ∃ (b : Addr) (M : Mch), vs = [.ref b] ∧ BoxAt C H b M ∧ M.Ok ∧ ∀ (l : Addr) (H' : Hp), H l = none → H' l = some (.lst (M.L.map V.str)) → Same H H' → Q (.ref l) H'
abbrev sc_Box_letters_st : Stmt := inClass (top 45) 3
abbrev sc_Box_letters_N : List Str := ["self"]
theorem sc_Box_letters : FnScope sc_Box_letters_N ["self"] (C8.fnScope sc_Box_letters_st) := C8.fnScope_by (by decide +kernel)
theorem m_letters (T : Txt K mg) (c : CTxt K C) (D : MDfn K C "letters" "Box.letters" sc_Box_letters_st ["self"]) : Met1 P w K mg base C 1 "letters" (spLetters C) := by
  refine D.met c sc_Box_letters (fun vs H Q E h => ?_) (fun f cdv A outer s H vs Q E hr h => ?_)
  · obtain ⟨b, M, rfl, _⟩ := h
    rfl
  · obtain ⟨b, M, rfl, ⟨dx, m, fs, h1, h2, h3, r, t, h4, h5⟩, ok, k⟩ := h
    refine ⟨_, (pss_one (ps_ret (pe_callTy (call_listD rfl) (by rfl) T.n_list (by decide +kernel) (pa_cons (pe_ix (ix_listK K) (listVals rfl (by rfl) T.n_list (fldK K (pv 0) rfl)) pe_int (fun _ _ => rfl)) pa_nil)))), ?_⟩
    obtain ⟨s0, S', eS⟩ := List.exists_cons_of_ne_nil ok.s0
    have hs0 : s0 ∈ M.S := by rw [eS]; simp
    refine ⟨_, rfl, b, C, dx, fs, _, rfl, h1, c.cl, c.nM, h2, m, _, rfl, h4, fun l1 hl1 => ⟨l1, _, 0, V.ref (r s0), rfl, rfl, SqL.of upd_same, at_ofA (j := 0) rfl (by rw [eS]; rfl), r s0, _, rfl, Rd.same (h5 s0 hs0).1 (same_upd hl1), fun l hl => ?_⟩⟩
    rw [tab_keys]
    have s1 := same_upd (o := .lst ((tab M.S fun s => V.ref (r s)).map (·.2))) hl1
    exact k l _ (Same.free s1 hl) upd_same (same_upd2 s1 (Same.free s1 hl))
def spCheck (C : Addr) : Sp := fun vs H Q _ => ∃ (b : Addr) (M : Mch) (x : Str), vs = [.ref b, .str x] ∧ BoxAt C H b M ∧ x ∈ M.S ∧ Q .non H
abbrev sc_Box_check_state_st : Stmt := inClass (top 45) 4
abbrev sc_Box_check_state_N : List Str := ["self", "state"]
theorem sc_Box_check_state : FnScope sc_Box_check_state_N ["self", "state"] (C8.fnScope sc_Box_check_state_st) := C8.fnScope_by (by decide +kernel)
theorem m_check_state (T : Txt K mg) (c : CTxt K C) (D : MDfn K C "check_state" "Box.check_state" sc_Box_check_state_st ["self", "state"]) : Met1 P w K mg base C 1 "check_state" (spCheck C) := by
  refine D.met c sc_Box_check_state (fun vs H Q E h => ?_) (fun f cdv A outer s H vs Q E hr h => ?_)
  · obtain ⟨b, M, x, rfl, _⟩ := h
    rfl
  · obtain ⟨b, M, x, rfl, ⟨dx, m, fs, h1, h2, h3, r, t, h4, h5⟩, hx, k⟩ := h
    have hu := hu_of hr
    refine ⟨_, (pss_one (ps_if (PW.pt (pw_or (pt_not (pt_val (pe_callB (isiK K) (by rfl) T.n_isinstance (by decide +kernel) (pa_cons (pv 1) (pa_cons (pe_bltn (v := .ty "str") (u := .type "str") (by rfl) T.n_str (by decide +kernel) rfl) pa_nil))))) (pw_or1 (pt_cmp (pc_dnotin hu (pv 1) (fldK K (pv 0) rfl)) rfl)))) (pss_one ps_never)
     pss_nil)), ?_⟩
    refine ⟨_, rfl, _, _, .type "str", .type "str", true, rfl, .ty _, .base (.str x), rfl, _, rfl, iteF ?_⟩
    refine ⟨_, rfl, _, rfl, b, C, dx, fs, _, rfl, h1, c.cl, c.nM, h2, m, _, rfl, .inl ⟨_, Sum.inr x, h4, rfl, (tab_in hx).symm⟩, _, rfl, iteF ?_⟩
    exact k
def spMove (C : Addr) : Sp := fun vs H Q _ => ∃ (b : Addr) (M : Mch) (x a : Str), vs = [.ref b, .str x, .str a] ∧ BoxAt C H b M ∧ x ∈ M.S ∧ a ∈ M.L ∧ ∀ q : Addr, H q = some (.tup [.str (M.g x a), .str (M.d x a)]) → Q (.ref q) H
abbrev sc_Box_move_st : Stmt := inClass (top 45) 5
abbrev sc_Box_move_N : List Str := ["self", "state", "letter"]
theorem sc_Box_move : FnScope sc_Box_move_N ["self", "state", "letter"] (C8.fnScope sc_Box_move_st) := C8.fnScope_by (by decide +kernel)
theorem m_move (T : Txt K mg) (c : CTxt K C) (m_check_state : Met1 P w K mg base C 1 "check_state" (spCheck C)) (D : MDfn K C "move" "Box.move" sc_Box_move_st ["self", "state", "letter"]) : Met1 P w K mg base C 2 "move" (spMove C) := by
  refine D.met c sc_Box_move (fun vs H Q E h => ?_) (fun f cdv A outer s H vs Q E hr h => ?_)
  · obtain ⟨b, M, x, a, rfl, _⟩ := h
    rfl
  · obtain ⟨b, M, x, a, rfl, B, hx, ha, k⟩ := h
    have hu := hu_of hr
    obtain ⟨dx, m, fs, h1, h2, h3, r, t, h4, h5⟩ := id B
    refine ⟨_, (pss_cons (ps_expr (C8.pe_mt m_check_state hr (by decide) (pv 0) (pa_cons (pv 1) pa_nil)))
    (pss_cons (ps_if (PW.pt (pw_or (pt_not (pt_val (pe_callB (isiK K) (by rfl) T.n_isinstance (by decide +kernel) (pa_cons (pv 2) (pa_cons (pe_bltn (v := .ty "str") (u := .type "str") (by rfl) T.n_str (by decide +kernel) rfl) pa_nil))))) (pw_or1 (pt_cmp (pc_dnotin hu (pv 2) (pe_dget hu (fldK K (pv 0) rfl) (pv 1) (fun _ _ => rfl))) rfl)))) (pss_one ps_never)
     pss_nil)
    (pss_one (ps_ret (pe_dget hu (pe_dget hu (fldK K (pv 0) rfl) (pv 1) (fun _ _ => rfl)) (pv 2) (fun _ _ => rfl)))))), ?_⟩
    refine ⟨_, rfl, b, dx, fs, rfl, h1, h3 _ (by decide +kernel) (by decide +kernel), _, rfl, b, M, x, rfl, B, hx, ?_⟩
    refine ⟨_, rfl, _, _, .type "str", .type "str", true, rfl, .ty _, .base (.str a), rfl, _, rfl, iteF ?_⟩
    refine ⟨_, rfl, _, rfl, b, C, dx, fs, _, rfl, h1, c.cl, c.nM, h2, _, rfl, m, _, rfl, .inl ⟨_, Sum.inr x, h4, rfl, (tab_in hx).symm⟩, r x, _, rfl, .inl ⟨_, Sum.inr a, (h5 x hx).1, rfl, (tab_in ha).symm⟩, _, rfl, iteF ?_⟩
    refine ⟨_, rfl, b, C, dx, fs, _, rfl, h1, c.cl, c.nM, h2, _, rfl, m, _, rfl, .inl ⟨_, Sum.inr x, h4, rfl, (tab_in hx).symm⟩, _, rfl, r x, _, rfl, .inl ⟨_, Sum.inr a, (h5 x hx).1, rfl, (tab_in ha).symm⟩, ?_⟩
    exact k _ ((h5 x hx).2 a ha)
def spIsState (C : Addr) : Sp := fun vs H Q _ => ∃ (b : Addr) (M : Mch) (x : Str), vs = [.ref b, .str x] ∧ BoxAt C H b M ∧ x ∈ M.S ∧ Q (.bl true) H
abbrev sc_Box_is_state_st : Stmt := inClass (top 45) 13
abbrev sc_Box_is_state_N : List Str := ["self", "thing"]
theorem sc_Box_is_state : FnScope sc_Box_is_state_N ["self", "thing"] (C8.fnScope sc_Box_is_state_st) := C8.fnScope_by (by decide +kernel)
theorem m_is_state (T : Txt K mg) (c : CTxt K C) (D : MDfn K C "is_state" "Box.is_state" sc_Box_is_state_st ["self", "thing"]) : Met1 P w K mg base C 1 "is_state" (spIsState C) := by
  refine D.met c sc_Box_is_state (fun vs H Q E h => ?_) (fun f cdv A outer s H vs Q E hr h => ?_)
  · obtain ⟨b, M, x, rfl, _⟩ := h
    rfl
  · obtain ⟨b, M, x, rfl, ⟨dx, m, fs, h1, h2, h3, r, t, h4, h5⟩, hx, k⟩ := h
    have hu := hu_of hr
    refine ⟨_, (pss_one (ps_ret (pe_and (pe_callB (isiK K) (by rfl) T.n_isinstance (by decide +kernel) (pa_cons (pv 1) (pa_cons (pe_bltn (v := .ty "str") (u := .type "str") (by rfl) T.n_str (by decide +kernel) rfl) pa_nil))) (pe_one (pe_cmp (pc_din hu (pv 1) (fldK K (pv 0) rfl)) rfl))))), ?_⟩
    refine ⟨_, rfl, _, _, .type "str", .type "str", true, rfl, .ty _, .base (.str x), rfl, _, rfl, ?_⟩
    refine ⟨_, rfl, _, rfl, b, C, dx, fs, _, rfl, h1, c.cl, c.nM, h2, m, _, rfl, .inl ⟨_, Sum.inr x, h4, rfl, (tab_in hx).symm⟩, ?_⟩
    exact k
end
end K45
end
section
set_option maxRecDepth 100000
set_option maxHeartbeats 4000000
namespace K45
open PySem PySem.Spec L2
section
variable {P : Program} {w : World} {K : PySem.W.Frag} {mg : Str → Option Value} {base : Heap} {C : Addr}
def spRow (C : Addr) : Sp := fun vs H Q _ => ∃ (b : Addr) (M : Mch) (x : Str) (l : Addr) (row : List Str), vs = [.ref b, .str x, .ref l] ∧ BoxAt C H b M ∧ M.Ok ∧ x ∈ M.S ∧ H l = some (.lst (row.map V.str)) ∧ (∀ a ∈ row, a ∈ M.L) ∧
  ∀ (r : Addr) (H' : Hp), H' r = some (.lst (row.map V.str)) → Same H H' → Q (.ref r) H'
abbrev sc_Box_checked_row_st : Stmt := inClass (top 45) 6
abbrev sc_Box_checked_row_N : List Str := ["self", "state", "row", "letters", "index", "letter"]
theorem sc_Box_checked_row : FnScope sc_Box_checked_row_N ["self", "state", "row"] (C8.fnScope sc_Box_checked_row_st) := C8.fnScope_by (by decide +kernel)
theorem m_checked_row (T : Txt K mg) (c : CTxt K C) (c_is_list : Call1 P w K mg base 1 "is_list" spIsList) (m_check_state : Met1 P w K mg base C 1 "check_state" (spCheck C)) (m_letters : Met1 P w K mg base C 1 "letters" (spLetters C))
    (D : MDfn K C "checked_row" "Box.checked_row" sc_Box_checked_row_st ["self", "state", "row"]) : Met1 P w K mg base C 2 "checked_row" (spRow C) := by
  refine D.met c sc_Box_checked_row (fun vs H Q E h => ?_) (fun f cdv A outer s H vs Q E hr h => ?_)
  · obtain ⟨b, M, x, l, row, rfl, _⟩ := h
    rfl
  · obtain ⟨b, M, x, l, row, rfl, B, ok, hx, hl, hrow, k⟩ := h
    obtain ⟨dx, m, fs, h1, h2, h3, h4⟩ := id B
    refine ⟨_, (pss_cons (ps_expr (C8.pe_mt m_check_state hr (by decide) (pv 0) (pa_cons (pv 1) pa_nil)))
    (pss_cons (ps_if (pt_not (pt_val (C8.pe_c c_is_list hr (by decide) (by rfl) (pa_cons (pv 2) pa_nil)))) (pss_one ps_never)
     pss_nil)
    (pss_cons (ps_set (i := 3) sc_Box_checked_row.nd rfl (by first | exact Or.inl rfl | exact Or.inr rfl) (C8.pe_mt0 m_letters hr (by decide) (pv 0)))
    (pss_cons (ps_for PassesOwn.never rfl (enumI K (by rfl) T.n_enumerate (pa_cons (pv 2) pa_nil)) (tupG K rfl (pgs_cons (pg_name (i := 4) sc_Box_checked_row.nd rfl (by first | exact Or.inl rfl | exact Or.inr rfl)) (pgs_cons (pg_name (i := 5) sc_Box_checked_row.nd rfl (by first | exact Or.inl rfl | exact Or.inr rfl)) pgs_nil)))
     (pss_one (ps_if (PW.pt (pw_or (pt_not (pt_val (pe_callB (isiK K) (by rfl) T.n_isinstance (by decide +kernel) (pa_cons (pv 5) (pa_cons (pe_bltn (v := .ty "str") (u := .type "str") (by rfl) T.n_str (by decide +kernel) rfl) pa_nil))))) (pw_or1 (pt_cmpR (notInSeqK K) (pv 5) (pv 3) rfl)))) (pss_one ps_never)
       pss_nil)))
    (pss_one (ps_ret (pe_callTy (listK K) (by rfl) T.n_list (by decide +kernel) (pa_cons (pv 2) pa_nil)))))))), ?_⟩
    refine ⟨_, rfl, b, dx, fs, rfl, h1, h3 _ (by decide +kernel) (by decide +kernel), _, rfl, b, M, x, rfl, B, hx, ?_⟩
    refine ⟨_, rfl, l, rfl, .inl ⟨_, hl⟩, fun H1 sm1 => ⟨_, rfl, iteF ?_⟩⟩
    refine ⟨_, rfl, b, dx, fs, rfl, sm1 _ _ h1, h3 _ (by decide +kernel) (by decide +kernel), b, M, rfl, B.same sm1, ok, fun ll H2 hll gl2 sm2 => ?_⟩
    have hl2 := sm2 _ _ (sm1 _ _ hl)
    refine ⟨_, rfl, l, _, rfl, SqL.of hl2, ?_⟩
    refine for_it walk_enum (fun i σ H3 => ∃ v4 v5 : Option V, σ = [some (.ref b), some (.str x), some (.ref l), some (.ref ll), v4, v5] ∧ Same H2 H3) ⟨none, none, rfl, fun _ _ e => e⟩ (fun i σ H3 _ ⟨_, _, _, sm⟩ => SqL.of (sm _ _ hl2)) ?_ ?_
    · rintro i y σ H3 H4 hi ⟨v4, v5, rfl, sm3⟩ ⟨Tp, x1, y1, rfl, hT, rfl, e1, e2⟩
      obtain ⟨a, ha, rfl⟩ := str_at e2
      have haL := hrow a (List.mem_of_getElem? ha)
      have sm4 := same_upd2 (o := .tup [x1, .str a]) sm3 (Same.free sm3 hT)
      refine ⟨_, _, rfl, SqT.of upd_same, rfl, _, _, rfl, _, _, rfl, rfl, ?_⟩
      refine ⟨_, rfl, _, _, .type "str", .type "str", true, rfl, .ty _, .base (.str a), rfl, _, rfl, iteF ?_⟩
      refine ⟨_, rfl, _, rfl, ll, _, rfl, .inl (SqL.of (sm4 _ _ gl2)), rfl, flat_strs _, _, rfl, ?_⟩
      rw [inV_strs, decide_eq_true haL]
      exact iteF ⟨_, _, rfl, sm4⟩
    · rintro σ H3 ⟨v4, v5, rfl, sm3⟩
      refine ⟨_, rfl, l, _, rfl, .inl (SqL.of (sm3 _ _ hl2)), fun r hr0 => ?_⟩
      exact k r _ upd_same (same_upd2 (Same.tr sm1 (Same.tr sm2 sm3)) (Same.free sm1 (Same.free sm2 (Same.free sm3 hr0))))
def spGone (C : Addr) : Sp := fun vs H Q _ => ∃ (b : Addr) (M : Mch) (x : Str) (l : Addr) (row : List Str), vs = [.ref b, .str x, .ref l] ∧ BoxAt C H b M ∧ M.Ok ∧ x ∈ M.S ∧ H l = some (.lst (row.map V.str)) ∧ (∀ a ∈ row, a ∈ M.L) ∧ row.length ≤ 900 ∧
  ∀ (q : Addr) (y : V) (H' : Hp), H' q = some (.tup [y, .str (runw M.d x row)]) → Same H H' → Q (.ref q) H'
theorem runw_take {d : Str → Str → Str} {x a : Str} {row : List Str} {i : Nat} (h : row[i]? = some a) : runw d x (row.take (i + 1)) = d (runw d x (row.take i)) a := by rw [take_snoc h, runw_snoc]
abbrev sc_Box_gone_st : Stmt := inClass (top 45) 7
abbrev sc_Box_gone_N : List Str := ["self", "state", "row", "here", "found", "letter", "sign"]
theorem sc_Box_gone : FnScope sc_Box_gone_N ["self", "state", "row"] (C8.fnScope sc_Box_gone_st) := C8.fnScope_by (by decide +kernel)
theorem m_gone (T : Txt K mg) (c : CTxt K C) (D : MDfn K C "gone" "Box.gone" sc_Box_gone_st ["self", "state", "row"]) : Met1 P w K mg base C 1 "gone" (spGone C) := by
  refine D.met c sc_Box_gone (fun vs H Q E h => ?_) (fun f cdv A outer s H vs Q E hr h => ?_)
  · obtain ⟨b, M, x, l, row, rfl, _⟩ := h
    rfl
  · obtain ⟨b, M, x, l, row, rfl, B, ok, hx, hl, hrow, hlen, k⟩ := h
    have hu := hu_of hr
    refine ⟨_, (pss_cons (ps_par (i := 3) (j := 4) (by rfl) sc_Box_gone.nd rfl rfl (by decide) rfl rfl (pa_cons (pv 1) (pa_cons (pe_lst pa_nil) pa_nil)) (by rfl))
    (pss_cons (ps_for PassesOwn.never rfl (listI K (pv 2)) (pg_name (i := 5) sc_Box_gone.nd rfl (by first | exact Or.inl rfl | exact Or.inr rfl))
     (pss_cons (ps_asg (pe_dget hu (pe_dget hu (fldK K (pv 0) rfl) (pv 3) (fun _ _ => rfl)) (pv 5) (fun _ _ => rfl)) (tupG K rfl (pgs_cons (pg_name (i := 6) sc_Box_gone.nd rfl (by first | exact Or.inl rfl | exact Or.inr rfl)) (pgs_cons (pg_name (i := 3) sc_Box_gone.nd rfl (by first | exact Or.inl rfl | exact Or.inr rfl)) pgs_nil))))
      (pss_one (ps_expr (bmK K PySem.F.plainAttrs_list PySem.F.slot_list_append PySem.F.type_list_append mt_append (pv 4) (pa_cons (pv 6) pa_nil))))))
    (pss_one (ps_ret (pe_tup (pa_cons (pe_callTy (tupleK K) (by rfl) T.n_tuple (by decide +kernel) (pa_cons (pv 4) pa_nil)) (pa_cons (pv 3) pa_nil))))))), ?_⟩
    refine ⟨_, rfl, sz_le (by show 0 ≤ 1000; decide), fun fo hfo => ⟨_, _, rfl, ?_⟩⟩
    have s0 := same_upd (o := .lst []) hfo
    refine ⟨_, rfl, l, rfl, ⟨_, SqL.of (s0 _ _ hl)⟩, for_list (K := K) (a := l) (xs := row.map V.str) (fun i σ H2 => ∃ (v5 v6 : Option V) (ys : List V), σ = [some (.ref b), some (.str x), some (.ref l), some (.str (runw M.d x (row.take i))), some (.ref fo), v5, v6] ∧ H2 fo = some (.lst ys) ∧ ys.length = i ∧ Same H H2)
      ⟨none, none, [], rfl, upd_same, rfl, s0⟩ (fun i σ H2 _ ⟨_, _, _, _, _, _, sm⟩ => SqL.of (sm _ _ hl)) ?_ ?_⟩
    · rintro i y σ H2 hi ⟨v5, v6, ys, rfl, g2, hy, sm⟩
      obtain ⟨a, ha, rfl⟩ := str_at hi
      have haL := hrow a (List.mem_of_getElem? ha)
      have hs := runw_in ok.st (w := row.take i) hx fun z hz => hrow z (List.mem_of_mem_take hz)
      obtain ⟨dx, m, fs, h1, h2, h3, r, t, h4, h5⟩ := B.same sm
      refine ⟨_, rfl, b, C, dx, fs, _, rfl, h1, c.cl, c.nM, h2, _, rfl, m, _, rfl, .inl ⟨_, Sum.inr _, h4, rfl, (tab_in hs).symm⟩, _, rfl, r _, _, rfl, .inl ⟨_, Sum.inr a, (h5 _ hs).1, rfl, (tab_in haL).symm⟩, ?_⟩
      refine ⟨_, _, rfl, SqT.of ((h5 _ hs).2 a haL), rfl, _, _, rfl, _, _, rfl, rfl, ?_⟩
      have hi2 := (List.getElem?_eq_some_iff.mp ha).1
      refine ⟨_, rfl, .inl ⟨rfl, _, SqL.of g2⟩, _, rfl, fo, _, _, rfl, rfl, g2, small1000 (by omega), ?_⟩
      refine ⟨some (.str a), some (.str (M.g (runw M.d x (row.take i)) a)), ys ++ [.str (M.g (runw M.d x (row.take i)) a)], ?_, upd_same, by rw [List.length_append, hy]; rfl, fun z o e => by rw [upd_ne (ne_of_none e hfo)]; exact sm z o e⟩
      rw [runw_take ha]; rfl
    · rintro σ H2 ⟨v5, v6, ys, rfl, g2, hy, sm⟩
      rw [List.length_map, List.take_length] 
      refine ⟨_, rfl, fo, _, rfl, .inl ⟨SqL.of g2, fun tq htq => ⟨_, rfl, sz_le (by show 2 ≤ 1000; decide), fun q hq => ?_⟩⟩⟩
      have s5 := same_upd2 (o := .tup ys) sm (Same.free sm htq)
      exact k q _ _ upd_same (same_upd2 s5 (Same.free s5 hq))
def spEnd (C : Addr) : Sp := fun vs H Q _ => ∃ (b : Addr) (M : Mch) (x : Str) (l : Addr) (row : List Str), vs = [.ref b, .str x, .ref l] ∧ BoxAt C H b M ∧ M.Ok ∧ x ∈ M.S ∧ H l = some (.lst (row.map V.str)) ∧ (∀ a ∈ row, a ∈ M.L) ∧ row.length ≤ 900 ∧
  ∀ (H' : Hp), Same H H' → Q (.str (runw M.d x row)) H'
abbrev sc_Box_end_st : Stmt := inClass (top 45) 9
abbrev sc_Box_end_N : List Str := ["self", "state", "row"]
theorem sc_Box_end : FnScope sc_Box_end_N ["self", "state", "row"] (C8.fnScope sc_Box_end_st) := C8.fnScope_by (by decide +kernel)
theorem m_end (T : Txt K mg) (c : CTxt K C) (m_checked_row : Met1 P w K mg base C 2 "checked_row" (spRow C)) (m_gone : Met1 P w K mg base C 1 "gone" (spGone C)) (D : MDfn K C "end" "Box.end" sc_Box_end_st ["self", "state", "row"]) : Met1 P w K mg base C 3 "end" (spEnd C) := by
  refine D.met c sc_Box_end (fun vs H Q E h => ?_) (fun f cdv A outer s H vs Q E hr h => ?_)
  · obtain ⟨b, M, x, l, row, rfl, _⟩ := h
    rfl
  · obtain ⟨b, M, x, l, row, rfl, B, ok, hx, hl, hrow, hlen, k⟩ := h
    obtain ⟨dx, m, fs, h1, h2, h3, h4⟩ := id B
    refine ⟨_, (pss_one (ps_ret (pe_ix (ix_tupK K) (C8.pe_mt m_gone hr (by decide) (pv 0) (pa_cons (pv 1) (pa_cons (C8.pe_mt m_checked_row hr (by decide) (pv 0) (pa_cons (pv 1) (pa_cons (pv 2) pa_nil))) pa_nil))) pe_int (fun _ _ => rfl)))), ?_⟩
    refine ⟨_, rfl, b, dx, fs, rfl, h1, h3 _ (by decide +kernel) (by decide +kernel), _, rfl, _, rfl, b, dx, fs, rfl, h1, h3 _ (by decide +kernel) (by decide +kernel), _, rfl, _, rfl, b, M, x, l, row, rfl, B, ok, hx, hl, hrow, fun r H1 hr1 sm1 => ?_⟩
    refine ⟨b, M, x, r, row, rfl, B.same sm1, ok, hx, hr1, hrow, hlen, fun q y H2 hq sm2 => ?_⟩
    exact ⟨q, _, 1, _, rfl, rfl, SqT.of hq, rfl, k _ (Same.tr sm1 sm2)⟩
def spIsPut (K : PySem.W.Frag) : Sp := fun vs H Q _ => ∃ (z l : Addr), vs = [.ref z, .ref l] ∧ (H z = some (.lst []) ∨ H z = some (.tup [])) ∧ ∀ H', Same H H' → Q (.bl true) H'
abbrev sc_is_put_st : Stmt := top 41
abbrev sc_is_put_N : List Str := ["thing", "letters", "letter"]
theorem sc_is_put : FnScope sc_is_put_N ["thing", "letters"] (C8.fnScope sc_is_put_st) := C8.fnScope_by (by decide +kernel)
theorem c_is_put (T : Txt K mg) (c_is_list : Call1 P w K mg base 1 "is_list" spIsList) (D : Dfn K mg "is_put" sc_is_put_st ["thing", "letters"]) : Call1 P w K mg base 2 "is_put" (spIsPut K) := by
  refine D.cal sc_is_put (fun vs H Q E h => ?_) (fun f cdv A outer s H vs Q E hr h => ?_)
  · obtain ⟨z, l, rfl, _⟩ := h
    rfl
  · obtain ⟨z, l, rfl, hz, k⟩ := h
    refine ⟨_, (pss_one (ps_ret (pe_and (C8.pe_c c_is_list hr (by decide) (by rfl) (pa_cons (pv 0) pa_nil)) (pe_one (pe_callB (allK K rfl) (by rfl) T.n_all (by decide +kernel) (pa_cons (pe_lc (own := [("letter", 2)]) (g := (gName 2)) (tt := tYes) rfl sc_is_put.nd (pi_or (listI K (pv 0)) (tupI K (pv 0))) (blkOk_by (N := sc_is_put_N) (sc := C8.fnScope sc_is_put_st) (by decide +kernel)) (fun _ _ _ _ _ => (pg_name (i := 2) sc_is_put.nd rfl (by first | exact Or.inl rfl | exact Or.inr rfl))) (fun _ _ _ _ _ => pts_nil) (fun _ _ _ _ _ => (pe_and (pe_callB (isiK K) (by rfl) T.n_isinstance (by decide +kernel) (pa_cons (pv 2) (pa_cons (pe_bltn (v := .ty "str") (u := .type "str") (by rfl) T.n_str (by decide +kernel) rfl) pa_nil))) (pe_one (pe_cmpR (inSeqK K) (pv 2) (pv 1) rfl))))) pa_nil)))))), ?_⟩
    refine ⟨_, rfl, z, rfl, hz.imp (fun e => ⟨_, e⟩) (fun e => ⟨_, e⟩), fun H1 sm1 => ⟨_, rfl, ?_⟩⟩
    rcases hz with hz | hz
    · refine .inl ⟨_, rfl, z, rfl, ⟨_, SqL.of (sm1 _ _ hz)⟩, fun Dn hD => ?_⟩
      refine lc_list (K := K) (a := z) (xs := []) (fun j H2 => H2 Dn = some (.lst []) ∧ Same H H2) ⟨upd_same, same_upd2 sm1 (Same.free sm1 hD)⟩ (fun i H2 _ h => SqL.of (h.2 _ _ hz)) (fun i x H2 hi => by simp at hi) ?_
      rintro H2 ⟨g2, sm⟩
      exact ⟨Dn, [], rfl, SqL.of g2, k _ sm⟩
    · refine .inr ⟨_, rfl, z, rfl, ⟨_, SqT.of (sm1 _ _ hz)⟩, fun Dn hD => ?_⟩
      refine lc_tup (K := K) (a := z) (xs := []) (fun j H2 => H2 Dn = some (.lst []) ∧ Same H H2) ⟨upd_same, same_upd2 sm1 (Same.free sm1 hD)⟩ (fun i H2 _ h => SqT.of (h.2 _ _ hz)) (fun i x H2 hi => by simp at hi) ?_
      rintro H2 ⟨g2, sm⟩
      exact ⟨Dn, [], rfl, SqL.of g2, k _ sm⟩
def spAskOf (K : PySem.W.Frag) : Sp := fun vs H Q _ => ∃ (z l q : Addr), vs = [.ref z, .ref l, .ref q] ∧ (H z = some (.lst []) ∨ H z = some (.tup [])) ∧ ∀ (t : Addr) (x y : V) (H' : Hp), H' t = some (.tup [x, y]) → Same H H' → Q (.ref t) H'
abbrev sc_ask_of_st : Stmt := top 43
abbrev sc_ask_of_N : List Str := ["thing", "letters", "states", "state"]
theorem sc_ask_of : FnScope sc_ask_of_N ["thing", "letters", "states"] (C8.fnScope sc_ask_of_st) := C8.fnScope_by (by decide +kernel)
theorem c_ask_of (T : Txt K mg) (c_is_put : Call1 P w K mg base 2 "is_put" (spIsPut K)) (D : Dfn K mg "ask_of" sc_ask_of_st ["thing", "letters", "states"]) : Call1 P w K mg base 3 "ask_of" (spAskOf K) := by
  refine D.cal sc_ask_of (fun vs H Q E h => ?_) (fun f cdv A outer s H vs Q E hr h => ?_)
  · obtain ⟨z, l, q, rfl, _⟩ := h
    rfl
  · obtain ⟨z, l, q, rfl, hz, k⟩ := h
    refine ⟨_, (pss_cons (ps_if (pt_val (C8.pe_c c_is_put hr (by decide) (by rfl) (pa_cons (pv 0) (pa_cons (pv 1) pa_nil)))) (pss_one (ps_ret (pe_tup (pa_cons (pe_callTy (tupleK K) (by rfl) T.n_tuple (by decide +kernel) (pa_cons (pv 0) pa_nil)) (pa_cons pe_non pa_nil)))))
     pss_nil)
    pss_never), ?_⟩
    refine ⟨_, rfl, _, rfl, z, l, rfl, hz, fun H1 sm1 => ⟨_, rfl, ?_⟩⟩
    refine iteT ?_
    rcases hz with hz | hz
    · refine ⟨_, rfl, z, _, rfl, .inl ⟨SqL.of (sm1 _ _ hz), fun t0 ht0 => ⟨sz_le (by show 2 ≤ 1000; decide), fun q2 hq2 => ?_⟩⟩⟩
      have s2 := same_upd2 (o := .tup []) sm1 (Same.free sm1 ht0)
      exact k q2 _ _ _ upd_same (same_upd2 s2 (Same.free s2 hq2))
    · refine ⟨_, rfl, z, _, rfl, .inr ⟨SqT.of (sm1 _ _ hz), sz_le (by show 2 ≤ 1000; decide), fun q2 hq2 => ?_⟩⟩
      exact k q2 _ _ _ upd_same (same_upd2 sm1 (Same.free sm1 hq2))
end
end K45
end
section
set_option maxRecDepth 100000
set_option maxHeartbeats 4000000
namespace K45
open PySem PySem.Spec L2
theorem Rd.ne_ins {H : Hp} {a p C dx : Addr} {fs : List (Str × V)} {kvs : List (Key × V)} (h : Rd H a (.dK kvs)) (hp : H p = some (.ins C dx fs)) : a ≠ p := by
  intro e
  subst e
  rcases h with h | ⟨o, h⟩
  · rw [h] at hp; cases hp
  · rw [h] at hp; cases hp
/-- all but the box's own object -/
def But (p : Addr) (H H' : Hp) : Prop := ∀ b o, H b = some o → b ≠ p → H' b = some o
theorem But.rd {H H' : Hp} {a p : Addr} {u : HO} (s : But p H H') (h : Rd H a u) (n : a ≠ p) : Rd H' a u := h.elim (fun h => .inl (s _ _ h n)) fun ⟨o, h⟩ => .inr ⟨o, s _ _ h n⟩
theorem But.tr {p : Addr} {H H1 H2 : Hp} (a : But p H H1) (b : But p H1 H2) : But p H H2 := fun c o h n => b c o (a c o h n) n
theorem Same.but {p : Addr} {H H1 : Hp} (a : Same H H1) : But p H H1 := fun c o h _ => a c o h
theorem but_upd {p : Addr} {H : Hp} {o : HO} : But p H (upd H p o) := fun c u h n => by rw [upd_ne n]; exact h
theorem MvAt.but {H H' : Hp} {m p C dx : Addr} {fs : List (Str × V)} {M : Mch} (h : MvAt H m M) (hp : H p = some (.ins C dx fs)) (s : But p H H') : MvAt H' m M := by
  obtain ⟨r, t, h1, h2⟩ := h
  refine ⟨r, t, s.rd h1 (Rd.ne_ins h1 hp), fun x hx => ⟨s.rd (h2 x hx).1 (Rd.ne_ins (h2 x hx).1 hp), fun a ha => s _ _ ((h2 x hx).2 a ha) fun e => ?_⟩⟩
  have := (h2 x hx).2 a ha
  rw [e, hp] at this; cases this
section
variable {P : Program} {w : World} {K : PySem.W.Frag} {mg : Str → Option Value} {base : Heap} {C : Addr}
def spInit (C : Addr) : Sp := fun vs H Q _ => ∃ (p dx m qd z : Addr) (M : Mch) (r : Str → Addr) (t : Str → Str → Addr) (Ls : Str → List Str), vs = [.ref p, .ref m, .ref qd] ∧ H p = some (.ins C dx []) ∧ H m = some (.dK (tab M.S fun s => .ref (r s))) ∧ MvG H m M r t Ls ∧ M.Ok ∧
  H qd = some (.dK [(Sum.inr "q", .ref z)]) ∧ (H z = some (.lst []) ∨ H z = some (.tup [])) ∧ ∀ H', BoxAt C H' p M → But p H H' → Q .non H'
structure KDfn (K : PySem.W.Frag) (C : Addr) (mg : Str → Option Value) (x qual : Str) (st : Stmt) (ps : List Str) : Prop where
  ex : ∃ (f : Addr) (fd : FuncData), Mk K C f ∧ mg x = some (.ref C) ∧ C8.Fun K "__init__" qual st f fd ∧ Binds K fd ps []
abbrev Mak1 (P : Program) (w : World) (K : PySem.W.Frag) (mg : Str → Option Value) (base : Heap) (C : Addr) (k : Nat) (x : Str) (sp : Sp) : Prop := C8.Mak P w K mg base k x C sp []
theorem KDfn.mak {x qual : Str} {st : Stmt} {N ps : List Str} {k : Nat} {sp : Sp} (D : KDfn K C mg x qual st ps) (S : FnScope N ps (C8.fnScope st)) (len : ∀ vs H Q E, sp vs H Q E → vs.length = ps.length)
    (hbody : ∀ (f : Addr) (cdv : Value) (A : Around) (outer : List Env) (s : Shared) (H : Hp) (vs : List V) (Q : VK) (E : XK), Room k (A.deeper (PyProof.Rows.envOfC qual (C8.fnScope st) s.heap.objs.size f cdv)) → sp vs H Q E →
      ∃ t, PSs (cxOf C8.CX0 P w K mg base N qual (C8.fnScope st) f cdv A outer s H E).nox (C8.fnBody st) t ∧ t { nx := fun _ H' => Q .non H', rt := Q } (start N vs) H) : Mak1 P w K mg base C (k + 1) x sp := by
  obtain ⟨f, fd, M, hm, F, b⟩ := D.ex
  exact C8.mak0 M hm F b .nil S len fun cdv A outer s H vs Q E => hbody f cdv A outer s H vs Q E
theorem q_nm : Nm "q" := by
  show NmB "q" = true
  decide +kernel
abbrev sc_Box_init_st : Stmt := inClass (top 45) 0
abbrev sc_Box_init_N : List Str := ["self", "moves", "questions", "found", "letters", "name", "ask"]
theorem sc_Box_init : FnScope sc_Box_init_N ["self", "moves", "questions"] (C8.fnScope sc_Box_init_st) := C8.fnScope_by (by decide +kernel)
theorem c_Box (T : Txt K mg) (c : CTxt K C) (c_checked_moves : Call1 P w K mg base 4 "checked_moves" spChecked) (m_letters : Met1 P w K mg base C 1 "letters" (spLetters C)) (c_ask_of : Call1 P w K mg base 3 "ask_of" (spAskOf K)) (c_is_name : Call1 P w K mg base 1 "is_name" spIsName)
    (D : KDfn K C mg "Box" "Box.__init__" sc_Box_init_st ["self", "moves", "questions"]) : Mak1 P w K mg base C 5 "Box" (spInit C) := by
  refine D.mak sc_Box_init (fun vs H Q E h => ?_) (fun f cdv A outer s H vs Q E hr h => ?_)
  · obtain ⟨p, dx, m, qd, z, M, r, t, Ls, rfl, _⟩ := h
    rfl
  · obtain ⟨p, dx, m, qd, z, M, r, t, Ls, rfl, hp, hm, G, ok, hq, hz, k⟩ := h
    have hu := hu_of hr
    refine ⟨_, (pss_cons (ps_fld (pv 0) (C8.pe_c c_checked_moves hr (by decide) (by rfl) (pa_cons (pv 1) pa_nil)) rfl)
    (pss_cons (ps_if (PW.pt (pw_or (pt_not (pt_val (pe_callB (isiK K) (by rfl) T.n_isinstance (by decide +kernel) (pa_cons (pv 2) (pa_cons (pe_bltn (v := .ty "dict") (u := .type "dict") (by rfl) T.n_dict (by decide +kernel) rfl) pa_nil))))) (pw_or1 (pt_cmpR op_eq (pe_callB call_lenD (by rfl) T.n_len (by decide +kernel) (pa_cons (pv 2) pa_nil)) pe_int (nomark _))))) (pss_one ps_never)
     pss_nil)
    (pss_cons (ps_par (i := 3) (j := 4) (by rfl) sc_Box_init.nd rfl rfl (by decide) rfl rfl (pa_cons pe_dnewK (pa_cons (C8.pe_mt0 m_letters hr (by decide) (pv 0)) pa_nil)) (by rfl))
    (pss_cons (ps_lock (ps_for PassesOwn.never rfl (pi_keys (pv 2)) (pg_name (i := 5) sc_Box_init.nd rfl (by first | exact Or.inl rfl | exact Or.inr rfl))
     (pss_cons (ps_set (i := 6) sc_Box_init.nd rfl (by first | exact Or.inl rfl | exact Or.inr rfl) (C8.pe_c c_ask_of hr (by decide) (by rfl) (pa_cons (pe_dget hu (pv 2) (pv 5) (fun _ _ => rfl)) (pa_cons (pv 4) (pa_cons (pe_callTy (call_listD rfl) (by rfl) T.n_list (by decide +kernel) (pa_cons (fldK K (pv 0) rfl) pa_nil)) pa_nil)))))
      (pss_cons (ps_if (PW.pt (pw_or (pt_not (pt_val (C8.pe_c c_is_name hr (by decide) (by rfl) (pa_cons (pv 5) pa_nil)))) (pw_or1 (pt_cmp (pc_isN (pv 6)) rfl)))) (pss_one ps_never)
       pss_nil)
      (pss_one (ps_dput hu (pv 3) (pv 5) (pv 6) rfl))))))
    (pss_one (ps_fld (pv 0) (pv 3) rfl)))))), ?_⟩
    refine ⟨_, rfl, m, M, r, t, Ls, rfl, hm, G, ok, fun l1 H1 r' t' mv sm1 => ⟨_, rfl, p, C, dx, [], rfl, sm1 _ _ hp, c.cl, c.nM, by show 0 < 1000; decide, ?_⟩⟩
    have b1 : But p H (upd H1 p (.ins C dx (putF "own_moves" (.ref l1) []))) := (Same.but sm1).tr but_upd
    have B1 : BoxAt C (upd H1 p (.ins C dx (putF "own_moves" (.ref l1) []))) p M := by
      refine ⟨dx, l1, _, upd_same, by rw [lookup_putF, if_pos rfl], fun f n1 n2 => by rw [lookup_putF, if_neg n1]; rfl, mv.at.but (sm1 _ _ hp) but_upd⟩
    have hp1 : (upd H1 p (.ins C dx (putF "own_moves" (.ref l1) []))) p = some (.ins C dx (putF "own_moves" (.ref l1) [])) := upd_same
    have e1 : (putF "own_moves" (V.ref l1) []).length < 1000 := by show 1 < 1000; decide
    have lk : ∀ f : Str, ¬ f = "own_moves" → (putF "own_moves" (V.ref l1) []).lookup f = none := fun f n => by rw [lookup_putF, if_neg n]; rfl
    have lm : (putF "own_moves" (V.ref l1) []).lookup ("own_moves" : Str) = some (.ref l1) := by rw [lookup_putF, if_pos rfl]
    generalize upd H1 p (.ins C dx (putF "own_moves" (.ref l1) [])) = H2 at b1 B1 hp1
    have hqp : qd ≠ p := ne_of hq hp (by intro z; cases z)
    have hzp : z ≠ p := hz.elim (fun e => ne_of e hp (by intro z; cases z)) (fun e => ne_of e hp (by intro z; cases z))
    have hq2 := b1 _ _ hq hqp
    have hz2 : H2 z = some (.lst []) ∨ H2 z = some (.tup []) := hz.imp (fun e => b1 _ _ e hzp) (fun e => b1 _ _ e hzp)
    refine ⟨_, rfl, _, _, .type "dict", .type "dict", true, rfl, .ty _, .base (.dK hq2), rfl, _, rfl, iteF ?_⟩
    refine ⟨_, rfl, qd, _, rfl, hq2, rfl, _, rfl, iteDF (by intro e; injection e with e; cases e) ?_⟩
    intro fo hfo
    have s3 := same_upd (o := .dK []) hfo
    refine ⟨_, rfl, p, dx, _, rfl, s3 _ _ hp1, lk _ (by decide +kernel), p, M, rfl, B1.same s3, ok, fun ll H3 hll gl3 sm3 => ⟨_, _, rfl, ?_⟩⟩
    have s23 : Same H2 H3 := Same.tr s3 sm3
    have gfo := sm3 _ _ (upd_same (H := H2) (a := fo) (o := .dK []))
    have hq3 := s23 _ _ hq2
    have hp3 := s23 _ _ hp1
    have B3 := B1.same s23
    have nfp : fo ≠ p := (ne_of_none hp1 hfo).symm
    have nfq : fo ≠ qd := (ne_of_none hq2 hfo).symm
    obtain ⟨dx3, m3, fs3, hb1, hb2, hb3, r3, t3, hb4, hb5⟩ := id B1
    have efs : fs3 = putF "own_moves" (V.ref l1) [] := by
      have := hb1.symm.trans hp1
      exact (HO.ins.inj (Option.some.inj this)).2.2
    have em3 : m3 = l1 := by
      rw [efs, lm] at hb2
      exact (V.ref.inj (Option.some.inj hb2)).symm
    subst em3
    obtain ⟨o1, ho1⟩ : ∃ o, H2 m3 = some o := hb4.elim (fun h => ⟨_, h⟩) (fun ⟨o, h⟩ => ⟨_, h⟩)
    have nlf : m3 ≠ fo := ne_of_none ho1 hfo
    obtain ⟨s0, S', eS⟩ := List.exists_cons_of_ne_nil ok.s0
    have hs0 : s0 ∈ M.S := by rw [eS]; simp
    have nlq : m3 ≠ qd := fun e => by
      rw [e] at hb4
      rcases hb4 with h | ⟨o, h⟩
      · rw [hq2] at h
        have h3 : [((Sum.inr "q" : Key), V.ref z)] = tab M.S (fun s => V.ref (r3 s)) := HO.dK.inj (Option.some.inj h)
        rw [eS] at h3
        have h4 := (Prod.mk.inj (List.cons.inj h3).1).2
        have h5 := (hb5 s0 hs0).1
        rw [← V.ref.inj h4] at h5
        rcases hz2 with g | g <;> rcases h5 with h5 | ⟨o, h5⟩ <;> (rw [g] at h5; cases h5)
      · rw [hq2] at h; cases h
    refine ⟨qd, _, hq3, True.intro, fun od => ⟨_, rfl, qd, od, rfl, .inl ⟨_, upd_same, ?_⟩⟩⟩
    refine for_it walk_keys (fun i σ H4 => ∃ (v5 v6 : Option V) (kvs : List (Key × V)), σ = [some (.ref p), some (.ref m), some (.ref qd), some (.ref fo), some (.ref ll), v5, v6] ∧ H4 fo = some (.dK kvs) ∧ kvs.length ≤ i ∧ But fo (upd H3 qd (.frz od (.dK [(Sum.inr "q", .ref z)]))) H4)
      ⟨none, none, [], rfl, by rw [upd_ne nfq]; exact gfo, Nat.le_refl _, fun _ _ e _ => e⟩ (fun i σ H4 _ ⟨_, _, _, _, _, _, s4⟩ => s4 _ _ upd_same nfq.symm) ?_ ?_
    · rintro i x σ H4 H5 hi ⟨v5, v6, kvs, rfl, gf, hk, s4⟩ ⟨rfl, kk, vv, hkv, rfl⟩
      have hi0 : i = 0 := by have : i < 1 := hi; omega
      subst hi0
      have e := Option.some.inj (show some ((Sum.inr "q" : Key), V.ref z) = some (kk, vv) from hkv)
      obtain ⟨rfl, rfl⟩ := Prod.mk.inj e
      have hin : valV [((Sum.inr "q" : Key), V.ref z)] (Sum.inr "q" : Key) = some (.ref z) := valV_pos rfl
      have hzq : z ≠ qd := hz2.elim (fun e => ne_of e hq2 (by intro z; cases z)) (fun e => ne_of e hq2 (by intro z; cases z))
      have hzf : z ≠ fo := hz2.elim (fun e => ne_of_none e hfo) (fun e => ne_of_none e hfo)
      have kz : ∀ o, H2 z = some o → H5 z = some o := fun o e => s4 _ _ (by rw [upd_ne hzq]; exact s23 _ _ e) hzf
      have hz4 := hz2.imp (kz _) (kz _)
      have hq4 := s4 _ _ upd_same nfq.symm
      have hp5 : H5 p = some (.ins C dx (putF "own_moves" (.ref m3) [])) := s4 _ _ (by rw [upd_ne hqp.symm]; exact hp3) nfp.symm
      have rl5 : Rd H5 m3 (.dK (tab M.S fun s => .ref (r3 s))) := by
        refine s4.rd ?_ nlf
        have := Rd.same hb4 s23
        exact this.elim (fun h => .inl (by rw [upd_ne nlq]; exact h)) fun ⟨o, h⟩ => .inr ⟨o, by rw [upd_ne nlq]; exact h⟩
      refine ⟨_, rfl, _, rfl, qd, _, rfl, .inl ⟨_, Sum.inr "q", .inr ⟨od, hq4⟩, rfl, hin.symm⟩, _, rfl, _, rfl, p, C, dx, _, _, rfl, hp5, c.cl, c.nM, lm, m3, _, rfl, rl5, fun lq hlq => ?_⟩
      have s6 := same_upd (o := .lst ((tab M.S fun s => V.ref (r3 s)).map fun kv => kV kv.1)) hlq
      refine ⟨z, ll, lq, rfl, hz4.imp (s6 _ _) (s6 _ _), fun tq xq yq H6 htq sm6 => ?_⟩
      refine ⟨_, rfl, "q", rfl, q_nm, fun H7 sm7 => ⟨_, rfl, iteF ⟨_, rfl, _, rfl, iteDF (fun e => nomatch e) ?_⟩⟩⟩
      have s57 : Same H5 H7 := Same.tr s6 (Same.tr sm6 sm7)
      refine ⟨_, rfl, _, rfl, _, rfl, fo, _, rfl, DPut.k (k := Sum.inr "q") (s57 _ _ gf) (small1000 (by omega)), ?_⟩
      have := length_putK kvs (Sum.inr "q" : Key) (.ref tq)
      exact ⟨_, _, _, rfl, upd_same, by omega, fun b o e n => by rw [upd_ne n]; exact s57 _ _ (s4 b o e n)⟩
    · rintro σ H4 ⟨v5, v6, kvs, rfl, gf, hk, s4⟩
      refine ⟨s4 _ _ upd_same nfq.symm, ?_⟩
      have b2 : But p H2 (upd H4 qd (.dK [(Sum.inr "q", .ref z)])) := fun b o e n => by
        by_cases hb : b = qd
        · subst hb
          rw [upd_same, ← hq2]; exact e
        · rw [upd_ne hb]
          exact s4 b o (by rw [upd_ne hb]; exact s23 _ _ e) (ne_of_none e hfo)
      have hp5 : (upd H4 qd (.dK [(Sum.inr "q", .ref z)])) p = some (.ins C dx (putF "own_moves" (.ref m3) [])) := by
        rw [upd_ne hqp.symm]
        exact s4 _ _ (by rw [upd_ne hqp.symm]; exact hp3) nfp.symm
      refine ⟨_, rfl, _, rfl, p, C, dx, _, rfl, hp5, c.cl, c.nA, e1, ?_⟩
      refine k _ ⟨dx, m3, _, upd_same, by rw [lookup_putF, if_neg (by decide +kernel)]; exact lm, fun f n1 n2 => by rw [lookup_putF, if_neg n2]; exact lk f n1, MvAt.but ⟨r3, t3, hb4, hb5⟩ hp1 (b2.tr but_upd)⟩ (b1.tr (b2.tr but_upd))
end
end K45
end
section
set_option maxRecDepth 100000
set_option maxHeartbeats 4000000
namespace K45
open PySem PySem.Spec L2
theorem hu65_of {A : Around} {k : Nat} (hr : Room k A) : A.units + 65 < cLine := by have := hr.un; omega
theorem hu100_of {A : Around} {k : Nat} (hr : Room k A) : A.units + 100 < cLine := by have := hr.un; omega
section
variable {J J1 : It} {n n1 : Nat} {G G1 : Hp → Prop} {Y Y1 : Nat → Hp → V → Hp → Prop}
/-- two generators -/
theorem lc2_it (w : Walk J n G Y) {g g1 : TG} {tt tt1 : TT} {wi1 : TI} {te : TE} {vs vs1 : List Nat} {σ : L2.St} {H1 : Hp} {D : Addr} {Qd : Hp → Prop} (Pv : Nat → Hp → Prop) (h0 : Pv 0 (upd H1 D (.lst []))) (hG : ∀ i H, i ≤ n → Pv i H → G H)
    (hs : ∀ i x H H', i < n → Pv i H → Y i H x H' → g x (wipe σ vs) H' fun σ2 H2 => wipe σ2 vs = wipe σ vs ∧ tt σ2 H2 fun b H3 =>
      if b = true then wi1 σ2 H3 fun J1 H4 => ∃ W1 : Nat → Nat → Hp → Prop, (∃ m, W1 0 m H4) ∧ ∀ j k H, W1 j k H →
        (J1.stop j H ∧ Pv (i + 1) H) ∨ (J1.go j H ∧ ∃ Nx1 : Hp → Prop, (∀ H', Nx1 H' → ∃ k', k' < k ∧ W1 (j + 1) k' H') ∧ ∀ x H', J1.yld j H x H' → g1 x (wipe σ2 vs1) H' fun σ3 H5 => wipe σ3 vs1 = wipe σ2 vs1 ∧ tt1 σ3 H5 fun b H6 =>
          if b = true then te σ3 H6 fun y H7 => ∃ acc, H7 D = some (.lst acc) ∧ acc.length < sizeLine ∧ Nx1 (upd H7 D (.lst (acc ++ [y]))) else Nx1 H6)
      else Pv (i + 1) H3) (hd : ∀ H, Pv n H → Qd H) :
    ∃ W : Nat → Nat → Hp → Prop, (∃ m, W 0 m (upd H1 D (.lst []))) ∧ ∀ i m H, W i m H →
      (J.stop i H ∧ Qd H) ∨ (J.go i H ∧ ∃ Nx : Hp → Prop, (∀ H', Nx H' → ∃ m', m' < m ∧ W (i + 1) m' H') ∧ ∀ x H', J.yld i H x H' → g x (wipe σ vs) H' fun σ2 H2 => wipe σ2 vs = wipe σ vs ∧ tt σ2 H2 fun b H3 =>
        if b = true then wi1 σ2 H3 fun J1 H4 => ∃ W1 : Nat → Nat → Hp → Prop, (∃ m, W1 0 m H4) ∧ ∀ j k H, W1 j k H →
          (J1.stop j H ∧ Nx H) ∨ (J1.go j H ∧ ∃ Nx1 : Hp → Prop, (∀ H', Nx1 H' → ∃ k', k' < k ∧ W1 (j + 1) k' H') ∧ ∀ x H', J1.yld j H x H' → g1 x (wipe σ2 vs1) H' fun σ3 H5 => wipe σ3 vs1 = wipe σ2 vs1 ∧ tt1 σ3 H5 fun b H6 =>
            if b = true then te σ3 H6 fun y H7 => ∃ acc, H7 D = some (.lst acc) ∧ acc.length < sizeLine ∧ Nx1 (upd H7 D (.lst (acc ++ [y]))) else Nx1 H6)
        else Nx H3) := by
  refine ⟨fun i m H => m = n - i ∧ i ≤ n ∧ Pv i H, ⟨n, by simp, Nat.zero_le _, h0⟩, ?_⟩
  rintro i m H ⟨rfl, hi, p⟩
  have q := hG i H hi p
  by_cases hlt : i < n
  · refine .inr ⟨w.goes i H hlt q, Pv (i + 1), fun H' p' => ⟨n - (i + 1), by omega, rfl, hlt, p'⟩, fun x H' y => hs i x H H' hlt p (w.yields i H x H' hlt q y)⟩
  · have e : i = n := by omega
    subst e
    exact .inl ⟨w.stops H q, hd H p⟩
theorem lc2_in (w : Walk J1 n1 G1 Y1) {g1 : TG} {tt1 : TT} {te : TE} {vs1 : List Nat} {σ2 : L2.St} {H4 : Hp} {D : Addr} {Z : Hp → Prop} (P1 : Nat → Hp → Prop) (h0 : P1 0 H4) (hG : ∀ i H, i ≤ n1 → P1 i H → G1 H)
    (hs : ∀ j x H H', j < n1 → P1 j H → Y1 j H x H' → g1 x (wipe σ2 vs1) H' fun σ3 H5 => wipe σ3 vs1 = wipe σ2 vs1 ∧ tt1 σ3 H5 fun b H6 =>
      if b = true then te σ3 H6 fun y H7 => ∃ acc, H7 D = some (.lst acc) ∧ acc.length < sizeLine ∧ P1 (j + 1) (upd H7 D (.lst (acc ++ [y]))) else P1 (j + 1) H6) (hd : ∀ H, P1 n1 H → Z H) :
    ∃ W1 : Nat → Nat → Hp → Prop, (∃ m, W1 0 m H4) ∧ ∀ j k H, W1 j k H →
      (J1.stop j H ∧ Z H) ∨ (J1.go j H ∧ ∃ Nx1 : Hp → Prop, (∀ H', Nx1 H' → ∃ k', k' < k ∧ W1 (j + 1) k' H') ∧ ∀ x H', J1.yld j H x H' → g1 x (wipe σ2 vs1) H' fun σ3 H5 => wipe σ3 vs1 = wipe σ2 vs1 ∧ tt1 σ3 H5 fun b H6 =>
        if b = true then te σ3 H6 fun y H7 => ∃ acc, H7 D = some (.lst acc) ∧ acc.length < sizeLine ∧ Nx1 (upd H7 D (.lst (acc ++ [y]))) else Nx1 H6) := by
  refine ⟨fun i m H => m = n1 - i ∧ i ≤ n1 ∧ P1 i H, ⟨n1, by simp, Nat.zero_le _, h0⟩, ?_⟩
  rintro i m H ⟨rfl, hi, p⟩
  have q := hG i H hi p
  by_cases hlt : i < n1
  · refine .inr ⟨w.goes i H hlt q, P1 (i + 1), fun H' p' => ⟨n1 - (i + 1), by omega, rfl, hlt, p'⟩, fun x H' y => hs i x H H' hlt p (w.yields i H x H' hlt q y)⟩
  · have e : i = n1 := by omega
    subst e
    exact .inl ⟨w.stops H q, hd H p⟩
end
/-! ## pairs -/
abbrev Pr := Str × Str
def PrAt (H : Hp) (c : Addr) (p : Pr) : Prop := H c = some (.tup [.str p.1, .str p.2])
def PrsAt (H : Hp) (q : Addr) (ps : List Pr) : Prop := ∃ cs : List Addr, H q = some (.lst (cs.map V.ref)) ∧ Paired (PrAt H) cs ps
theorem PrsAt.same {H H' : Hp} {q : Addr} {ps : List Pr} (h : PrsAt H q ps) (s : Same H H') : PrsAt H' q ps := by
  obtain ⟨cs, h1, h2⟩ := h
  exact ⟨cs, s _ _ h1, paired_imp (fun a x _ e => s _ _ e) h2⟩
theorem paired_get {α β : Type} {F : α → β → Prop} : ∀ {as : List α} {xs : List β}, Paired F as xs → ∀ {i : Nat} {a : α}, as[i]? = some a → ∃ x, xs[i]? = some x ∧ F a x
  | _, _, .nil, i, a, h => by simp at h
  | _, _, .cons r t, 0, a, h => by
    simp at h
    subst h
    exact ⟨_, rfl, r⟩
  | _, _, .cons r t, i + 1, a, h => by
    simpa using paired_get t (by simpa using h)
theorem refs_get {cs : List Addr} {i : Nat} {x : V} (h : (cs.map V.ref)[i]? = some x) : ∃ c, cs[i]? = some c ∧ x = .ref c := by
  rw [List.getElem?_map] at h
  obtain ⟨a, ha, e⟩ := Option.map_eq_some_iff.mp h
  exact ⟨a, ha, e.symm⟩
def dPr (p : Pr) : PyData := dTup [p.1, p.2]
theorem dp_pr {K : PySem.W.Frag} {H : Hp} {c : Addr} {p : Pr} (h : PrAt H c p) : Dp K H (.ref c) (dPr p) := dp_tup (xs := [p.1, p.2]) (SqT.of h)
theorem dp_prs {K : PySem.W.Frag} {H : Hp} {q : Addr} {ps : List Pr} (h : PrsAt H q ps) : Dp K H (.ref q) (.list (ps.map dPr)) := by
  obtain ⟨cs, h1, h2⟩ := h
  exact .lst (SqL.of h1) (dp_each (fun a x e => dp_pr e) h2)
theorem lay_pr {p : Pr} (h : Nm p.1 ∧ Nm p.2) : Lay 1 (dPr p) := lay_tup fun x hx => by
  rcases List.mem_cons.mp hx with e | hx
  · rw [e]; exact h.1.ok
  · rw [List.mem_singleton.mp hx]; exact h.2.ok
theorem lay_prs {ps : List Pr} (h : ∀ p ∈ ps, Nm p.1 ∧ Nm p.2) : Lay 2 (.list (ps.map dPr)) := Lay.list fun d hd => by
  obtain ⟨p, hp, rfl⟩ := List.mem_map.mp hd
  exact lay_pr (h p hp)
theorem any_pr (ps : List Pr) (p : Pr) : ((ps.map dPr).any fun z => PyData.eqv z (dPr p)) = ps.contains p := by
  induction ps with
  | nil => rfl
  | cons q ps ih =>
    rw [List.map_cons, List.any_cons, ih, List.contains_cons]
    congr 1
    show PyData.eqv (dTup [q.1, q.2]) (dTup [p.1, p.2]) = _
    rw [eqv_tup]
    obtain ⟨q1, q2⟩ := q
    obtain ⟨p1, p2⟩ := p
    rw [Bool.eq_iff_iff, decide_eq_true_eq, beq_iff_eq]
    constructor
    · intro e
      injection e with e1 e2
      injection e2 with e2 _
      exact Prod.ext e1.symm e2.symm
    · intro e
      injection e with e1 e2
      rw [e1, e2]
section
variable {P : Program} {w : World} {K : PySem.W.Frag} {mg : Str → Option Value} {base : Heap} {C : Addr}
def spLed (C : Addr) (f : Mch → Str → Str → Str) : Sp := fun vs H Q _ => ∃ (b c : Addr) (M : Mch) (p : Pr) (a : Str), vs = [.ref b, .ref c, .str a] ∧ BoxAt C H b M ∧ PrAt H c p ∧ p.1 ∈ M.S ∧ p.2 ∈ M.S ∧ a ∈ M.L ∧
  ∀ (t : Addr) (H' : Hp), PrAt H' t (f M p.1 a, f M p.2 a) → Same H H' → Q (.ref t) H'
abbrev sc_signs_of_pair_st : Stmt := top 7
abbrev sc_signs_of_pair_N : List Str := ["box", "pair", "letter"]
theorem sc_signs_of_pair : FnScope sc_signs_of_pair_N ["box", "pair", "letter"] (C8.fnScope sc_signs_of_pair_st) := C8.fnScope_by (by decide +kernel)
theorem c_signs_of_pair (T : Txt K mg) (c : CTxt K C) (m_move : Met1 P w K mg base C 2 "move" (spMove C)) (D : Dfn K mg "signs_of_pair" sc_signs_of_pair_st ["box", "pair", "letter"]) : Call1 P w K mg base 3 "signs_of_pair" (spLed C Mch.g) := by
  refine D.cal sc_signs_of_pair (fun vs H Q E h => ?_) (fun f cdv A outer s H vs Q E hr h => ?_)
  · obtain ⟨b, q, M, p, a, rfl, _⟩ := h
    rfl
  · obtain ⟨b, q, M, p, a, rfl, B, hq, hp1, hp2, ha, k⟩ := h
    obtain ⟨dx, m, fs, h1, h2, h3, h4⟩ := id B
    have hm := h3 "move" (by decide +kernel) (by decide +kernel)
    refine ⟨_, (pss_one (ps_ret (pe_tup (pa_cons (pe_ix (ix_tupK K) (C8.pe_mt m_move hr (by decide) (pv 0) (pa_cons (pe_ix (ix_tupK K) (pv 1) pe_int (fun _ _ => rfl)) (pa_cons (pv 2) pa_nil))) pe_int (fun _ _ => rfl)) (pa_cons (pe_ix (ix_tupK K) (C8.pe_mt m_move hr (by decide) (pv 0) (pa_cons (pe_ix (ix_tupK K) (pv 1) pe_int (fun _ _ => rfl)) (pa_cons (pv 2) pa_nil))) pe_int (fun _ _ => rfl)) pa_nil))))), ?_⟩
    refine ⟨_, rfl, b, dx, fs, rfl, h1, hm, _, rfl, q, _, 0, _, rfl, rfl, SqT.of hq, rfl, _, rfl, b, M, p.1, a, rfl, B, hp1, ha, fun c1 hc1 => ⟨c1, _, 0, _, rfl, rfl, SqT.of hc1, rfl, ?_⟩⟩
    refine ⟨_, rfl, b, dx, fs, rfl, h1, hm, _, rfl, q, _, 1, _, rfl, rfl, SqT.of hq, rfl, _, rfl, b, M, p.2, a, rfl, B, hp2, ha, fun c2 hc2 => ⟨c2, _, 0, _, rfl, rfl, SqT.of hc2, rfl, sz_le (by show 2 ≤ 1000; decide), fun t ht => ?_⟩⟩
    exact k t _ upd_same (same_upd ht)
abbrev sc_led_pair_st : Stmt := top 8
abbrev sc_led_pair_N : List Str := ["box", "pair", "letter"]
theorem sc_led_pair : FnScope sc_led_pair_N ["box", "pair", "letter"] (C8.fnScope sc_led_pair_st) := C8.fnScope_by (by decide +kernel)
theorem c_led_pair (T : Txt K mg) (c : CTxt K C) (m_move : Met1 P w K mg base C 2 "move" (spMove C)) (D : Dfn K mg "led_pair" sc_led_pair_st ["box", "pair", "letter"]) : Call1 P w K mg base 3 "led_pair" (spLed C Mch.d) := by
  refine D.cal sc_led_pair (fun vs H Q E h => ?_) (fun f cdv A outer s H vs Q E hr h => ?_)
  · obtain ⟨b, q, M, p, a, rfl, _⟩ := h
    rfl
  · obtain ⟨b, q, M, p, a, rfl, B, hq, hp1, hp2, ha, k⟩ := h
    obtain ⟨dx, m, fs, h1, h2, h3, h4⟩ := id B
    have hm := h3 "move" (by decide +kernel) (by decide +kernel)
    refine ⟨_, (pss_one (ps_ret (pe_tup (pa_cons (pe_ix (ix_tupK K) (C8.pe_mt m_move hr (by decide) (pv 0) (pa_cons (pe_ix (ix_tupK K) (pv 1) pe_int (fun _ _ => rfl)) (pa_cons (pv 2) pa_nil))) pe_int (fun _ _ => rfl)) (pa_cons (pe_ix (ix_tupK K) (C8.pe_mt m_move hr (by decide) (pv 0) (pa_cons (pe_ix (ix_tupK K) (pv 1) pe_int (fun _ _ => rfl)) (pa_cons (pv 2) pa_nil))) pe_int (fun _ _ => rfl)) pa_nil))))), ?_⟩
    refine ⟨_, rfl, b, dx, fs, rfl, h1, hm, _, rfl, q, _, 0, _, rfl, rfl, SqT.of hq, rfl, _, rfl, b, M, p.1, a, rfl, B, hp1, ha, fun c1 hc1 => ⟨c1, _, 1, _, rfl, rfl, SqT.of hc1, rfl, ?_⟩⟩
    refine ⟨_, rfl, b, dx, fs, rfl, h1, hm, _, rfl, q, _, 1, _, rfl, rfl, SqT.of hq, rfl, _, rfl, b, M, p.2, a, rfl, B, hp2, ha, fun c2 hc2 => ⟨c2, _, 1, _, rfl, rfl, SqT.of hc2, rfl, sz_le (by show 2 ≤ 1000; decide), fun t ht => ?_⟩⟩
    exact k t _ upd_same (same_upd ht)
def spPairIn : Sp := fun vs H Q _ => ∃ (c q : Addr) (p : Pr) (ps : List Pr), vs = [.ref c, .ref q] ∧ PrAt H c p ∧ PrsAt H q ps ∧ Nm p.1 ∧ Nm p.2 ∧ (∀ p ∈ ps, Nm p.1 ∧ Nm p.2) ∧ ∀ H', Same H H' → Q (.bl (inP p ps)) H'
abbrev sc_is_pair_in_st : Stmt := top 11
abbrev sc_is_pair_in_N : List Str := ["pair", "pairs"]
theorem sc_is_pair_in : FnScope sc_is_pair_in_N ["pair", "pairs"] (C8.fnScope sc_is_pair_in_st) := C8.fnScope_by (by decide +kernel)
theorem c_is_pair_in (T : Txt K mg) (D : Dfn K mg "is_pair_in" sc_is_pair_in_st ["pair", "pairs"]) : Call1 P w K mg base 1 "is_pair_in" spPairIn := by
  refine D.cal sc_is_pair_in (fun vs H Q E h => ?_) (fun f cdv A outer s H vs Q E hr h => ?_)
  · obtain ⟨c, q, p, ps, rfl, _⟩ := h
    rfl
  · obtain ⟨c, q, p, ps, rfl, hc, hq, n1, n2, hn, k⟩ := h
    refine ⟨_, (pss_one (ps_ret (pe_or (pe_cmpR (inDK K (hu65_of hr)) (pv 0) (pv 1) rfl) (pe_one (pe_cmpR (inDK K (hu65_of hr)) (pe_tup (pa_cons (pe_ix (ix_tupK K) (pv 0) pe_int (fun _ _ => rfl)) (pa_cons (pe_ix (ix_tupK K) (pv 0) pe_int (fun _ _ => rfl)) pa_nil))) (pv 1) rfl))))), ?_⟩
    refine ⟨_, rfl, _, rfl, _, _, dp_pr hc, dp_prs hq, (lay_pr ⟨n1, n2⟩).shaped (by decide), (lay_prs hn).shaped (by decide), _, rfl, ?_⟩
    rw [any_pr]
    refine ite2 (fun h => ?_) fun h => ?_
    · have e : inP p ps = true := by unfold inP; rw [h]; rfl
      have := k H fun _ _ e => e
      rw [e] at this
      exact this
    · refine ⟨_, rfl, c, _, 1, _, rfl, rfl, SqT.of hc, rfl, _, rfl, c, _, 0, _, rfl, rfl, SqT.of hc, rfl, sz_le (by show 2 ≤ 1000; decide), fun t ht => ?_⟩
      have s1 := same_upd (o := .tup [.str p.2, .str p.1]) ht
      refine ⟨_, rfl, _, _, dp_pr (p := (p.2, p.1)) upd_same, dp_prs (hq.same s1), (lay_pr (p := (p.2, p.1)) ⟨n2, n1⟩).shaped (by decide), (lay_prs hn).shaped (by decide), ?_⟩
      have e : inP p ps = ps.contains (p.2, p.1) := by
        unfold inP
        rw [Bool.eq_false_iff.mpr h]; rfl
      rw [any_pr, ← e]
      exact k _ s1
end
end K45
end
section
set_option maxRecDepth 100000
set_option maxHeartbeats 4000000
namespace K45
open PySem PySem.Spec L2
section
variable {P : Program} {w : World} {K : PySem.W.Frag} {mg : Str → Option Value} {base : Heap} {C : Addr}
theorem pairsOf_drop {α : Type} {l : List α} {i : Nat} {a : α} (h : l[i]? = some a) : pairsOf (l.drop i) = (l.drop (i + 1)).map (fun b => (a, b)) ++ pairsOf (l.drop (i + 1)) := by
  obtain ⟨h1, h2⟩ := List.getElem?_eq_some_iff.mp h
  rw [List.drop_eq_getElem_cons h1, h2]
  rfl
theorem cut_from (xs : List V) (k : Nat) : cutV xs (some (k : Int)) none = xs.drop k := by
  unfold cutV
  rw [HT.sIx_nat, HT.sIx_none]
  have e : xs.drop (min k xs.length) = xs.drop k := by
    by_cases h : k ≤ xs.length
    · rw [Nat.min_eq_left h]
    · rw [Nat.min_eq_right (by omega), List.drop_length, List.drop_eq_nil_of_le (by omega)]
  rw [e]
  refine List.take_of_length_le ?_
  rw [List.length_drop]
  omega
def spUnlike (C : Addr) : Sp := fun vs H Q _ => ∃ (b : Addr) (M : Mch), vs = [.ref b] ∧ BoxAt C H b M ∧ M.Ok ∧ ∀ (l : Addr) (H' : Hp), H l = none → PrsAt H' l (pairsOf M.S) → Same H H' → Q (.ref l) H'
abbrev sc_unlike_pairs_st : Stmt := top 10
abbrev sc_unlike_pairs_N : List Str := ["box", "states", "at", "one", "other"]
theorem sc_unlike_pairs : FnScope sc_unlike_pairs_N ["box"] (C8.fnScope sc_unlike_pairs_st) := C8.fnScope_by (by decide +kernel)
theorem c_unlike_pairs (T : Txt K mg) (c : CTxt K C) (m_states : Met1 P w K mg base C 1 "states" (spStates C)) (D : Dfn K mg "unlike_pairs" sc_unlike_pairs_st ["box"]) : Call1 P w K mg base 2 "unlike_pairs" (spUnlike C) := by
  refine D.cal sc_unlike_pairs (fun vs H Q E h => ?_) (fun f cdv A outer s H vs Q E hr h => ?_)
  · obtain ⟨b, M, rfl, _⟩ := h
    rfl
  · obtain ⟨b, M, rfl, B, ok, k⟩ := h
    obtain ⟨dx, m, fs, h1, h2, h3, h4⟩ := id B
    refine ⟨_, (pss_cons (ps_set (i := 1) sc_unlike_pairs.nd rfl (by first | exact Or.inl rfl | exact Or.inr rfl) (C8.pe_mt0 m_states hr (by decide) (pv 0)))
    (pss_one (ps_ret (pe_lc2 (own := [("at", 2), ("one", 3), ("other", 4)]) (vs1 := [4]) rfl sc_unlike_pairs.nd (enumI K (by rfl) T.n_enumerate (pa_cons (pv 1) pa_nil)) (blkOk_by (N := sc_unlike_pairs_N) (sc := C8.fnScope sc_unlike_pairs_st) (by decide +kernel)) (by decide) (fun _ _ _ _ _ => (tupG K (n := 2) rfl (pgs_cons (pg_name (i := 2) sc_unlike_pairs.nd rfl (by first | exact Or.inl rfl | exact Or.inr rfl)) (pgs_cons (pg_name (i := 3) sc_unlike_pairs.nd rfl (by first | exact Or.inl rfl | exact Or.inr rfl)) pgs_nil)))) (fun _ _ _ _ _ => pts_nil) (fun _ _ _ _ _ => (listI K (pe_slice (slListK K) (pv 1) (po_some (pe_op op_add (pv 2) pe_int)) po_none))) (fun _ _ _ _ _ => (pg_name (i := 4) sc_unlike_pairs.nd rfl (by first | exact Or.inl rfl | exact Or.inr rfl))) (fun _ _ _ _ _ => pts_nil) (fun _ _ _ _ _ => (pe_tup (pa_cons (pv 3) (pa_cons (pv 4) pa_nil)))))))), ?_⟩
    refine ⟨_, rfl, b, dx, fs, rfl, h1, h3 _ (by decide +kernel) (by decide +kernel), b, M, rfl, B, ok, fun ls H1 hls gls sm1 => ?_⟩
    refine ⟨_, rfl, ls, _, rfl, SqL.of gls, fun Dn hD => ?_⟩
    refine lc2_it walk_enum (fun i H2 => ∃ (cs : List Addr) (acc : List Pr), H2 Dn = some (.lst (cs.map V.ref)) ∧ Paired (PrAt H2) cs acc ∧ pairsOf M.S = acc ++ pairsOf (M.S.drop i) ∧ Same H1 H2) ⟨[], [], upd_same, .nil, rfl, same_upd hD⟩ (fun i H2 _ ⟨_, _, _, _, _, s⟩ => SqL.of (s _ _ gls)) ?_ ?_
    · rintro i v H2 H3 hi ⟨cs, acc, gD, pd, eq, sm⟩ ⟨Tp, x1, y1, rfl, hT, rfl, e1, e2⟩
      obtain ⟨a, ha, rfl⟩ := str_at e2
      obtain rfl := Option.some.inj e1
      refine ⟨_, _, rfl, SqT.of upd_same, rfl, _, _, rfl, _, _, rfl, rfl, rfl, ?_⟩
      have s2 := same_upd2 (o := .tup [.int (i : Nat), .str a]) sm (Same.free sm hT)
      have s21 := same_upd (o := .tup [.int (i : Nat), .str a]) hT
      have ec : (i : Int) + 1 = ((i + 1 : Nat) : Int) := by omega
      refine ⟨_, rfl, _, rfl, _, _, rfl, rfl, _, rfl, ls, _, rfl, SqL.of (s2 _ _ gls), fun sl hsl => ⟨sl, rfl, ⟨_, SqL.of upd_same⟩, ?_⟩⟩
      rw [ec, cut_from, ← List.map_drop]
      have nDs : Dn ≠ sl := ne_of_none (s21 _ _ gD) hsl
      refine lc2_in walk_list (fun j H5 => ∃ (cs : List Addr) (acc2 : List Pr), H5 Dn = some (.lst (cs.map V.ref)) ∧ Paired (PrAt H5) cs acc2 ∧ acc2 = acc ++ ((M.S.drop (i + 1)).take j).map (fun b => (a, b)) ∧ H5 sl = some (.lst ((M.S.drop (i + 1)).map V.str)) ∧ Same H1 H5)
        ⟨cs, acc, by rw [upd_ne nDs]; exact s21 _ _ gD, ?_, by simp, upd_same, same_upd2 s2 (Same.free s2 hsl)⟩ (fun j H5 _ ⟨_, _, _, _, _, h, _⟩ => SqL.of h) ?_ ?_
      · have s22 := same_upd2 (o := .lst ((M.S.drop (i + 1)).map V.str)) s21 (Same.free s21 hsl)
        exact paired_imp (fun a x _ e => s22 _ _ e) pd
      · rintro j x H5 H6 hj ⟨cs, acc2, gD5, pd5, e5, gs5, sm5⟩ ⟨rfl, hx⟩
        obtain ⟨b2, hb2, rfl⟩ := str_at hx
        refine ⟨rfl, _, rfl, _, rfl, sz_le (by show 2 ≤ 1000; decide), fun t ht => ?_⟩
        have st := same_upd (o := .tup [.str a, .str b2]) ht
        have nt : t ≠ Dn := (ne_of_none gD5 ht).symm
        refine ⟨_, st _ _ gD5, small1000 ?_, cs ++ [t], acc2 ++ [(a, b2)], ?_, ?_, ?_, ?_, ?_⟩
        · rw [List.length_map, paired_len pd5, e5]
          have hp := pairsOf_len M.S
          have h8 := ok.sf
          have hd := congrArg List.length (pairsOf_drop ha)
          have he := congrArg List.length eq
          rw [List.length_append, List.length_map] at hd
          rw [List.length_append] at he
          rw [List.length_append, List.length_map, List.length_take]
          have hm : M.S.length * M.S.length ≤ 8 * 8 := Nat.mul_le_mul h8 h8
          omega
        · rw [upd_same, List.map_append]; rfl
        · refine paired_snoc ?_ (paired_imp (fun q p _ e => ?_) pd5)
          · show upd _ Dn _ t = _
            rw [upd_ne nt, upd_same]
          · show upd _ Dn _ q = _
            have e2 := st _ _ e
            rw [upd_ne (ne_of e2 (st _ _ gD5) (by intro z; cases z))]
            exact e2
        · rw [e5, take_snoc hb2, List.map_append, List.append_assoc]; rfl
        · rw [upd_ne nDs.symm]; exact st _ _ gs5
        · exact fun q o e => by rw [upd_ne (ne_of_none e hD)]; exact st _ _ (sm5 q o e)
      · rintro H5 ⟨cs, acc2, gD5, pd5, e5, gs5, sm5⟩
        rw [List.length_map, List.take_length] at e5
        refine ⟨cs, acc2, gD5, pd5, ?_, sm5⟩
        rw [eq, pairsOf_drop ha, e5, List.append_assoc]
    · rintro H2 ⟨cs, acc, gD, pd, eq, sm⟩
      rw [List.length_map, List.drop_length] at eq
      refine k Dn H2 (Same.free sm1 hD) ⟨cs, gD, ?_⟩ (Same.tr sm1 sm)
      rw [eq]
      simpa [pairsOf] using pd
end
end K45
end
section
set_option maxRecDepth 100000
set_option maxHeartbeats 4000000
namespace K45
open PySem PySem.Spec L2
section
variable {P : Program} {w : World} {K : PySem.W.Frag} {mg : Str → Option Value} {base : Heap} {C : Addr}
theorem take_filter {α : Type} {l : List α} {f : α → Bool} {i : Nat} {p : α} (h : l[i]? = some p) : (l.take (i + 1)).filter f = (l.take i).filter f ++ (if f p = true then [p] else []) := by
  rw [take_snoc h, List.filter_append]
  congr 1
  by_cases e : f p = true
  · rw [if_pos e]; simp [e]
  · rw [if_neg e]; simp [e]
def SS (M : Mch) (ps : List Pr) : Prop := ∀ p ∈ ps, p.1 ∈ M.S ∧ p.2 ∈ M.S
def spLasting (C : Addr) : Sp := fun vs H Q _ => ∃ (b q : Addr) (M : Mch) (ps : List Pr), vs = [.ref b, .ref q] ∧ BoxAt C H b M ∧ M.Ok ∧ PrsAt H q ps ∧ SS M ps ∧ ps.length ≤ 64 ∧
  ∀ (l : Addr) (H' : Hp), H l = none → PrsAt H' l (lasts M.L M.d ps.length ps) → Same H H' → Q (.ref l) H'
abbrev sc_lasting_st : Stmt := top 12
abbrev sc_lasting_N : List Str := ["box", "pairs", "left", "is_still", "kept", "pair", "letter"]
theorem sc_lasting : FnScope sc_lasting_N ["box", "pairs"] (C8.fnScope sc_lasting_st) := C8.fnScope_by (by decide +kernel)
theorem c_lasting (T : Txt K mg) (c : CTxt K C) (c_is_pair_in : Call1 P w K mg base 1 "is_pair_in" spPairIn) (c_led_pair : Call1 P w K mg base 3 "led_pair" (spLed C Mch.d)) (m_letters : Met1 P w K mg base C 1 "letters" (spLetters C)) (D : Dfn K mg "lasting" sc_lasting_st ["box", "pairs"]) : Call1 P w K mg base 4 "lasting" (spLasting C) := by
  refine D.cal sc_lasting (fun vs H Q E h => ?_) (fun f cdv A outer s H vs Q E hr h => ?_)
  · obtain ⟨b, q, M, ps, rfl, _⟩ := h
    rfl
  · obtain ⟨b, q, M, ps, rfl, B, ok, hq, hss, hlen, k⟩ := h
    obtain ⟨cs0, gq, pd0⟩ := hq
    refine ⟨_, (pss_cons (ps_asg (pe_tup (pa_cons (pe_callTy (listK K) (by rfl) T.n_list (by decide +kernel) (pa_cons (pv 1) pa_nil)) (pa_cons pe_bl pa_nil))) (tupG K (n := 2) rfl (pgs_cons (pg_name (i := 2) sc_lasting.nd rfl (by first | exact Or.inl rfl | exact Or.inr rfl)) (pgs_cons (pg_name (i := 3) sc_lasting.nd rfl (by first | exact Or.inl rfl | exact Or.inr rfl)) pgs_nil))))
    (pss_cons (ps_while PassesOwn.never (pt_not (pt_val (pv 3)))
     (pss_cons (ps_set (i := 4) sc_lasting.nd rfl (by first | exact Or.inl rfl | exact Or.inr rfl) (pe_lst pa_nil))
      (pss_cons (ps_for PassesOwn.never rfl (listI K (pv 2)) (pg_name (i := 5) sc_lasting.nd rfl (by first | exact Or.inl rfl | exact Or.inr rfl))
       (pss_one (ps_if (pt_val (pe_callB (allK K rfl) (by rfl) T.n_all (by decide +kernel) (pa_cons (pe_lc (own := [("letter", 6)]) (g := (gName 6)) (tt := tYes) rfl sc_lasting.nd (listI K (C8.pe_mt0 m_letters hr (by decide) (pv 0))) (blkOk_by (N := sc_lasting_N) (sc := C8.fnScope sc_lasting_st) (by decide +kernel)) (fun _ _ _ _ _ => (pg_name (i := 6) sc_lasting.nd rfl (by first | exact Or.inl rfl | exact Or.inr rfl))) (fun _ _ _ _ _ => pts_nil) (fun _ _ _ _ _ => (C8.pe_c c_is_pair_in hr (by decide) (by rfl) (pa_cons (C8.pe_c c_led_pair hr (by decide) (by rfl) (pa_cons (pv 0) (pa_cons (pv 5) (pa_cons (pv 6) pa_nil)))) (pa_cons (pv 2) pa_nil))))) pa_nil))) (pss_one (ps_expr (bmK K PySem.F.plainAttrs_list PySem.F.slot_list_append PySem.F.type_list_append mt_append (pv 4) (pa_cons (pv 5) pa_nil))))
         pss_nil)))
      (pss_one (ps_asg (pe_tup (pa_cons (pe_cmpR op_eq (pe_callB (lenK K) (by rfl) T.n_len (by decide +kernel) (pa_cons (pv 4) pa_nil)) (pe_callB (lenK K) (by rfl) T.n_len (by decide +kernel) (pa_cons (pv 2) pa_nil)) (nomark _)) (pa_cons (pv 4) pa_nil))) (tupG K (n := 2) rfl (pgs_cons (pg_name (i := 3) sc_lasting.nd rfl (by first | exact Or.inl rfl | exact Or.inr rfl)) (pgs_cons (pg_name (i := 2) sc_lasting.nd rfl (by first | exact Or.inl rfl | exact Or.inr rfl)) pgs_nil))))))))
    (pss_one (ps_ret (pv 2))))), ?_⟩
    refine ⟨_, rfl, q, _, rfl, .inl (SqL.of gq), fun l0 hl0 => ⟨sz_le (by show 2 ≤ 1000; decide), fun tp0 htp0 => ⟨_, _, rfl, SqT.of upd_same, rfl, _, _, rfl, _, _, rfl, rfl, ?_⟩⟩⟩
    have s00 := same_upd (o := .lst (cs0.map V.ref)) hl0
    have s0 := same_upd2 (o := .tup [.ref l0, .bl false]) s00 (Same.free s00 htp0)
    have p0 : PrsAt (upd (upd H l0 (.lst (cs0.map V.ref))) tp0 (.tup [.ref l0, .bl false])) l0 ps := PrsAt.same ⟨cs0, upd_same, paired_imp (fun a x _ e => s00 _ _ e) pd0⟩ (same_upd htp0)
    refine ⟨fun m σ H2 => ∃ (is : Bool) (l : Addr) (cur : List Pr) (v4 v5 : Option V), σ = [some (.ref b), some (.ref q), some (.ref l), some (.bl is), v4, v5, none] ∧ PrsAt H2 l cur ∧ SS M cur ∧ cur.length ≤ 64 ∧ Same H H2 ∧ H l = none ∧
      (is = false → lasts M.L M.d cur.length cur = lasts M.L M.d ps.length ps) ∧ (is = true → cur = lasts M.L M.d ps.length ps) ∧ m = (if is = true then 0 else cur.length + 1), ⟨_, false, l0, ps, none, none, rfl, p0, hss, hlen, s0, hl0, fun _ => rfl, fun e => by (cases e), rfl⟩, ?_⟩
    rintro m σ H2 ⟨is, l, cur, v4, v5, rfl, pr, ss, hl64, sm2, hl, e1, e2, rfl⟩
    refine ⟨_, rfl, is, rfl, ?_⟩
    cases is with
    | true =>
      refine iteF ⟨_, rfl, ?_⟩
      rw [← e2 rfl] at k
      exact k l H2 hl pr sm2
    | false =>
      refine iteT ⟨_, fun σ' H' z => z, ?_⟩
      refine ⟨sz_le (by show 0 ≤ 1000; decide), fun kp hkp => ?_⟩
      have s3 := same_upd (o := .lst []) hkp
      obtain ⟨cs, gl, pd⟩ := id pr
      refine ⟨_, rfl, l, rfl, ⟨_, SqL.of (s3 _ _ gl)⟩, ?_⟩
      have hkp0 : H kp = none := Same.free sm2 hkp
      refine for_list (K := K) (a := l) (xs := cs.map V.ref) (fun i σ H3 => ∃ (ks : List Addr) (v5 : Option V), σ = [some (.ref b), some (.ref q), some (.ref l), some (.bl false), some (.ref kp), v5, none] ∧ H3 kp = some (.lst (ks.map V.ref)) ∧
        Paired (PrAt H3) ks ((cur.take i).filter fun p => M.L.all fun a => inP (M.d p.1 a, M.d p.2 a) cur) ∧ Same H2 H3) ⟨[], v5, rfl, upd_same, .nil, s3⟩ (fun i σ H3 _ ⟨_, _, _, _, _, s⟩ => SqL.of (s _ _ gl)) ?_ ?_
      · rintro i x σ H3 hi ⟨ks, v5, rfl, gk, pk, sm3⟩
        obtain ⟨ca, hca, rfl⟩ := refs_get hi
        obtain ⟨p, hp, hpr⟩ := paired_get pd hca
        have hpm := List.mem_of_getElem? hp
        obtain ⟨dx, m, fs, h1, h2, h3, h4⟩ := B.same (Same.tr sm2 sm3)
        refine ⟨_, rfl, b, dx, fs, rfl, h1, h3 _ (by decide +kernel) (by decide +kernel), b, M, rfl, B.same (Same.tr sm2 sm3), ok, fun ll H5 hll gll sm5 => ⟨ll, rfl, ⟨_, SqL.of gll⟩, fun Dn hD => ?_⟩⟩
        refine lc_list (K := K) (a := ll) (xs := M.L.map V.str) (fun j H6 => H6 Dn = some (.lst (((M.L.take j).map fun a => inP (M.d p.1 a, M.d p.2 a) cur).map V.bl)) ∧ Same H5 H6) ⟨upd_same, same_upd hD⟩ (fun i H6 _ h => SqL.of (h.2 _ _ gll)) ?_ ?_
        · rintro j x H6 hj ⟨gD, sm6⟩
          obtain ⟨a, ha, rfl⟩ := str_at hj
          have haL := List.mem_of_getElem? ha
          have s26 : Same H2 H6 := Same.tr sm3 (Same.tr sm5 sm6)
          have n1 := ok.sm _ (ok.st _ (ss p hpm).1 a haL)
          have n2 := ok.sm _ (ok.st _ (ss p hpm).2 a haL)
          refine ⟨rfl, _, rfl, _, rfl, _, rfl, b, ca, M, p, a, rfl, B.same (Same.tr sm2 s26), s26 _ _ hpr, (ss p hpm).1, (ss p hpm).2, haL, fun t H7 ht sm7 => ⟨_, rfl, t, l, (M.d p.1 a, M.d p.2 a), cur, rfl, ht, pr.same (Same.tr s26 sm7), n1, n2, fun z hz => ⟨ok.sm _ (ss z hz).1, ok.sm _ (ss z hz).2⟩, fun H8 sm8 => ⟨_, sm8 _ _ (sm7 _ _ gD), small1000 ?_, ?_, ?_⟩⟩⟩
          · rw [List.length_map, List.length_map, List.length_take]
            have := ok.lf
            omega
          · rw [upd_same, take_snoc ha, List.map_append, List.map_append]; rfl
          · exact fun z o e => by rw [upd_ne (ne_of_none e hD)]; exact sm8 _ _ (sm7 _ _ (sm6 z o e))
        · rintro H6 ⟨gD, sm6⟩
          rw [List.length_map, List.take_length] at gD
          have s36 : Same H3 H6 := Same.tr sm5 sm6
          refine ⟨Dn, _, rfl, SqL.of gD, _, rfl, ?_⟩
          have ea : ((M.L.map fun a => inP (M.d p.1 a, M.d p.2 a) cur).all id) = M.L.all fun a => inP (M.d p.1 a, M.d p.2 a) cur := by rw [List.all_map]; rfl
          rw [ea]
          have gk6 := s36 _ _ gk
          have lk : ks.length ≤ 64 := by
            rw [paired_len pk]
            exact Nat.le_trans (List.length_filter_le _ _) (Nat.le_trans (by rw [List.length_take]; omega) hl64)
          refine ite2 (fun e => ?_) fun e => ?_
          · refine ⟨_, rfl, .inl ⟨rfl, _, SqL.of gk6⟩, _, rfl, kp, _, _, rfl, rfl, gk6, small1000 (by rw [List.length_map]; omega), ?_⟩
            refine ⟨ks ++ [ca], _, rfl, by rw [upd_same, List.map_append]; rfl, ?_, fun z o e => by rw [upd_ne (ne_of_none e hkp)]; exact s36 _ _ (sm3 z o e)⟩
            rw [take_filter hp, if_pos e]
            have key : ∀ z p, PrAt H6 z p → PrAt (upd H6 kp (.lst (ks.map V.ref ++ [V.ref ca]))) z p := fun z p e => by
              show upd H6 kp _ z = _
              rw [upd_ne (ne_of e gk6 (by intro z; cases z))]; exact e
            exact paired_snoc (key _ _ (s36 _ _ (sm3 _ _ hpr))) (paired_imp (fun a x _ e => key _ _ (s36 _ _ e)) pk)
          · refine ⟨ks, _, rfl, gk6, ?_, Same.tr sm3 s36⟩
            rw [take_filter hp, if_neg e, List.append_nil]
            exact paired_imp (fun a x _ e => s36 _ _ e) pk
      · rintro σ H3 ⟨ks, v5, rfl, gk, pk, sm3⟩
        rw [List.length_map, paired_len pd, List.take_length] at pk
        refine ⟨_, rfl, .ref kp, ks.length, rfl, .inl ⟨_, SqL.of gk, by rw [List.length_map]⟩, _, rfl, .ref l, cs.length, rfl, .inl ⟨_, SqL.of (sm3 _ _ gl), by rw [List.length_map]⟩, rfl, _, rfl, sz_le (by show 2 ≤ 1000; decide), fun tq htq => ⟨_, _, rfl, SqT.of upd_same, rfl, _, _, rfl, _, _, rfl, rfl, ?_⟩⟩
        have sq := same_upd (o := .tup [.bl (decide (V.int (ks.length : Nat) = V.int (cs.length : Nat))), .ref kp]) htq
        have lt := lasts_turn (L := M.L) (d := M.d) cur.length cur (Nat.le_refl _)
        have ek : ks.length = (lstep M.L M.d cur).length := paired_len pk
        have ec : cs.length = cur.length := paired_len pd
        have hle := lstep_len M.L M.d cur
        refine ⟨_, ?_, decide (V.int (ks.length : Nat) = V.int (cs.length : Nat)), kp, lstep M.L M.d cur, _, _, rfl, PrsAt.same ⟨ks, gk, pk⟩ sq, fun z hz => ss z (List.mem_filter.mp hz).1, Nat.le_trans hle hl64, Same.tr (Same.tr sm2 sm3) sq, hkp0, ?_, ?_, rfl⟩
        · split
          · rename_i e
            simp
          · rename_i e
            simp only [Bool.false_eq_true, if_false]
            have : ¬ ks.length = cs.length := fun z => e (decide_eq_true (by rw [z]))
            omega
        · intro e
          have hne : ¬ (lstep M.L M.d cur).length = cur.length := fun z => by
            rw [decide_eq_true (by rw [ek, ec, z])] at e; cases e
          rw [if_neg hne] at lt
          rw [← lt]; exact e1 rfl
        · intro e
          have he := of_decide_eq_true e
          have hl : (lstep M.L M.d cur).length = cur.length := by
            rw [← ek, ← ec]
            injection he with he
            omega
          rw [if_pos hl] at lt
          rw [← lt]; exact e1 rfl
def spKeep (C : Addr) : Sp := fun vs H Q _ => ∃ (b : Addr) (M : Mch), vs = [.ref b] ∧ BoxAt C H b M ∧ M.Ok ∧ (keepF M.S M.L M.d = [] → ∀ H', Same H H' → Q .non H') ∧ (keepF M.S M.L M.d ≠ [] → ∀ (l : Addr) (H' : Hp), H l = none → PrsAt H' l (keepF M.S M.L M.d) → Same H H' → Q (.ref l) H')
theorem pairs_ss {M : Mch} (ok : M.Ok) : SS M (pairsOf M.S) := fun p hp => ⟨(of_pairsOf ok.sn hp).1, (of_pairsOf ok.sn hp).2.1⟩
theorem pairs_64 {M : Mch} (ok : M.Ok) : (pairsOf M.S).length ≤ 64 := Nat.le_trans (pairsOf_len M.S) (Nat.mul_le_mul ok.sf ok.sf)
theorem keep_64 {M : Mch} (ok : M.Ok) : (keepF M.S M.L M.d).length ≤ 64 := by
  have aux : ∀ (n : Nat) (l : List Pr), (lasts M.L M.d n l).length ≤ l.length := by
    intro n
    induction n with
    | zero => intro l; exact Nat.le_refl _
    | succ n ih =>
      intro l
      unfold lasts
      split
      · exact lstep_len _ _ _
      · exact Nat.le_trans (ih _) (lstep_len _ _ _)
  exact Nat.le_trans (aux _ _) (pairs_64 ok)
abbrev sc_keep_st : Stmt := top 13
abbrev sc_keep_N : List Str := ["box", "left"]
theorem sc_keep : FnScope sc_keep_N ["box"] (C8.fnScope sc_keep_st) := C8.fnScope_by (by decide +kernel)
theorem c_keep (T : Txt K mg) (c : CTxt K C) (c_unlike_pairs : Call1 P w K mg base 2 "unlike_pairs" (spUnlike C)) (c_lasting : Call1 P w K mg base 4 "lasting" (spLasting C)) (D : Dfn K mg "keep" sc_keep_st ["box"]) : Call1 P w K mg base 5 "keep" (spKeep C) := by
  refine D.cal sc_keep (fun vs H Q E h => ?_) (fun f cdv A outer s H vs Q E hr h => ?_)
  · obtain ⟨b, M, rfl, _⟩ := h
    rfl
  · obtain ⟨b, M, rfl, B, ok, k1, k2⟩ := h
    refine ⟨_, (pss_cons (ps_set (i := 1) sc_keep.nd rfl (by first | exact Or.inl rfl | exact Or.inr rfl) (C8.pe_c c_lasting hr (by decide) (by rfl) (pa_cons (pv 0) (pa_cons (C8.pe_c c_unlike_pairs hr (by decide) (by rfl) (pa_cons (pv 0) pa_nil)) pa_nil))))
    (pss_one (ps_ret (pe_ifExp (pt_cmpR op_gt (pe_callB (lenK K) (by rfl) T.n_len (by decide +kernel) (pa_cons (pv 1) pa_nil)) pe_int (nomark _)) (pv 1) pe_non)))), ?_⟩
    refine ⟨_, rfl, _, rfl, b, M, rfl, B, ok, fun q H1 hq pq sm1 => ⟨b, q, M, pairsOf M.S, rfl, B.same sm1, ok, pq, pairs_ss ok, pairs_64 ok, fun l H2 hl pl sm2 => ?_⟩⟩
    have pl' : PrsAt H2 l (keepF M.S M.L M.d) := pl
    obtain ⟨cs, g, pd⟩ := id pl'
    have e := paired_len pd
    refine ⟨_, rfl, .ref l, cs.length, rfl, .inl ⟨_, SqL.of g, by rw [List.length_map]⟩, cs.length, 0, rfl, rfl, _, rfl, ?_⟩
    by_cases h : keepF M.S M.L M.d = []
    · refine iteDF (by rw [e, h]; simp) ?_
      exact k1 h _ (Same.tr sm1 sm2)
    · refine iteDT (by rw [e]; have := List.length_pos_iff.mpr h; omega) ⟨_, rfl, ?_⟩
      exact k2 h l H2 (Same.free sm1 hl) pl' (Same.tr sm1 sm2)
end
end K45
end
section
set_option maxRecDepth 100000
set_option maxHeartbeats 4000000
/-! the search among sets of states -/
namespace K45
open PySem PySem.Spec L2
abbrev zz : Str := ⟨#[]⟩
abbrev Node := List Str × List Nat
def stepM (M : Mch) : List Str → Nat → List Str := kstep sltb M.L zz M.d
abbrev BfsM (M : Mch) (k0 : List Str) (all : List Node) (p i : Nat) : Prop := Bfs M.L.length (stepM M) (fun k => k.length = 1) k0 all p i
structure Srch (M : Mch) (k0 : List Str) (all : List Node) : Prop where
  ex : ∃ tl : List Node, all = (k0, []) :: tl ∧ (tl.map (·.1)).Nodup ∧ ∀ e ∈ tl, Up sltb e.1 ∧ ∀ x ∈ e.1, x ∈ M.S
theorem Srch.init (M : Mch) (k0 : List Str) : Srch M k0 [(k0, [])] := ⟨[], rfl, List.nodup_nil, fun e he => (by cases he)⟩
theorem Srch.add {M : Mch} {k0 k : List Str} {all : List Node} {wd : List Nat} (h : Srch M k0 all) (hu : Up sltb k) (hs : ∀ x ∈ k, x ∈ M.S) (hn : k ∉ all.tail.map (·.1)) : Srch M k0 (all ++ [(k, wd)]) := by
  obtain ⟨tl, rfl, nd, hm⟩ := h
  refine ⟨tl ++ [(k, wd)], rfl, ?_, fun e he => ?_⟩
  · rw [List.map_append, List.nodup_append]
    refine ⟨nd, by simp, fun a ha b hb e => ?_⟩
    have hb' : b = k := by simpa using hb
    exact hn (by rw [← hb', ← e]; exact ha)
  · rcases List.mem_append.mp he with he | he
    · exact hm e he
    · have : e = (k, wd) := by simpa using he
      rw [this]; exact ⟨hu, hs⟩
theorem Srch.tail {M : Mch} {k0 : List Str} {all : List Node} (h : Srch M k0 all) : all = (k0, []) :: all.tail := by
  obtain ⟨tl, rfl, _⟩ := h
  rfl
theorem Srch.len {M : Mch} {k0 : List Str} {all : List Node} (h : Srch M k0 all) (ok : M.Ok) : all.length ≤ 257 := by
  obtain ⟨tl, rfl, nd, hm⟩ := h
  have hc : Up sltb (canon sltb M.S) := up_canon sltb_ord M.S
  have h1 := nodup_len nd (r := subs (canon sltb M.S)) fun k hk => by
    obtain ⟨e, he, rfl⟩ := List.mem_map.mp hk
    exact subs_mem sltb_ord hc (hm e he).1 fun x hx => mem_canon.mpr ((hm e he).2 x hx)
  rw [List.length_map, subs_len] at h1
  have h2 : (canon sltb M.S).length ≤ 8 := Nat.le_trans (nodup_len (Up.nodup sltb_ord hc) (r := M.S) fun x hx => mem_canon.mp hx) ok.sf
  have h3 : 2 ^ (canon sltb M.S).length ≤ 2 ^ 8 := Nat.pow_le_pow_right (by decide) h2
  have h4 : (2 : Nat) ^ 8 = 256 := by decide
  rw [List.length_cons]
  omega
theorem Srch.sub {M : Mch} {k0 : List Str} {all : List Node} (h : Srch M k0 all) (h0 : ∀ x ∈ k0, x ∈ M.S) : ∀ e ∈ all, ∀ x ∈ e.1, x ∈ M.S := by
  obtain ⟨tl, rfl, nd, hm⟩ := h
  intro e he
  rcases List.mem_cons.mp he with z | he
  · rw [z]; exact h0
  · exact (hm e he).2
theorem Srch.few {M : Mch} {k0 : List Str} {all : List Node} (h : Srch M k0 all) (ok : M.Ok) (h0 : ∀ x ∈ k0, x ∈ M.S) (hn : k0.Nodup) : ∀ e ∈ all, e.1.length ≤ 8 := by
  have hs := h.sub h0
  obtain ⟨tl, rfl, nd, hm⟩ := h
  intro e he
  refine Nat.le_trans (nodup_len ?_ (hs e he)) ok.sf
  rcases List.mem_cons.mp he with z | he
  · rw [z]; exact hn
  · exact Up.nodup sltb_ord (hm e he).1
def Fst (M : Mch) (x : List Nat) : Prop := First M.L.length (fun x => Res M.S M.d (lets M.L zz x)) x
def NoRes (M : Mch) : Prop := ∀ x, Lets M.L.length x → ¬ Res M.S M.d (lets M.L zz x)
section
variable {M : Mch} {k0 : List Str} {all : List Node} {p : Nat}
theorem first_of (ok : M.Ok) (hk : ∀ x, x ∈ k0 ↔ x ∈ M.S) (hn : k0.Nodup) (B : BfsM M k0 all p 0) {f : Node} (hf : all[p]? = some f) (hg : f.1.length = 1) : Fst M f.2 :=
  (B.found hf hg).congr fun x _ => kgoal sltb_ord ok.s0 hk hn x
theorem none_of (ok : M.Ok) (hk : ∀ x, x ∈ k0 ↔ x ∈ M.S) (hn : k0.Nodup) (B : BfsM M k0 all p 0) (hp : all.length ≤ p) : NoRes M :=
  fun x hx r => B.none hp x hx ((kgoal sltb_ord ok.s0 hk hn x).mpr r)
theorem lets_len (L : List Str) (w : List Nat) : (lets L zz w).length = w.length := by simp [lets]
theorem lets_add (L : List Str) (w : List Nat) {i : Nat} {a : Str} (h : L[i]? = some a) : lets L zz (w ++ [i]) = lets L zz w ++ [a] := by
  unfold lets
  rw [List.map_append]
  congr 1
  show [L.getD i zz] = [a]
  rw [List.getD_eq_getElem?_getD, h]
  rfl
theorem step_of {k ys : List Str} {i : Nat} {a : Str} (h : M.L[i]? = some a) (hu : Up sltb ys) (hm : ∀ x, x ∈ ys ↔ x ∈ k.map fun s => M.d s a) : ys = stepM M k i := by
  unfold stepM kstep
  have e : M.L.getD i zz = a := by rw [List.getD_eq_getElem?_getD, h]; rfl
  rw [e]
  exact canon_of sltb_ord hu hm
theorem word_len (B : BfsM M k0 all p i) {j : Nat} {e : Node} (h : all[j]? = some e) : e.2.length ≤ j := B.len j j e (Nat.le_refl _) h
end
end K45
end
section
set_option maxRecDepth 100000
set_option maxHeartbeats 4000000
namespace K45
open PySem PySem.Spec L2
section
variable {X : Cx} {o i e value : Expr} {pos pos' tpos : Pos} {td ty tv tk : TE}
theorem pc_nnotP (P : Program) (w : World) (hu : X.A.units + 64 < cLine) (hi : PE X i ty) (ho : PE X o td) (h1 : X.prog = P := by rfl) (h2 : X.w = w := by rfl) : PC X .NotIn i o (tNNot P w ty td) := by
  subst h1 h2
  exact pc_nnot hu hi ho
theorem ps_nputP (P : Program) (w : World) (hu : X.A.units + 64 < cLine) (ho : PE X o td) (hi : PE X i ty) (hv : PE X value tv) (hs : swapsWith value (some (.Subscript o i pos')) pos.line X.env = pure false) (h1 : X.prog = P := by rfl) (h2 : X.w = w := by rfl) :
    PS X (.Assign [.Subscript o i pos'] value pos) (sNPut P w td ty tv) := by
  subst h1 h2
  exact ps_nput hu ho hi hv hs
theorem pe_ndispP (P : Program) (w : World) {keys : List (Option Expr)} {values : List Expr} (hu : X.A.units + 64 < cLine) (h : PPs X pos keys values [(tk, tv)]) (hall : keys.all (·.isSome) = true) (hl : keys.length = values.length) (h0 : keys ≠ [])
    (h15 : keys.length ≤ 15) (h1 : X.prog = P := by rfl) (h2 : X.w = w := by rfl) : PE X (.Dict keys values pos) (tNDisp P w tk tv) := by
  subst h1 h2
  exact pe_ndisp hu h hall hl h0 h15
end
/-! ## the search's heap: the waiting list at wl, the table at ma -/
/-- (states, row) stands at t -/
structure NodeAt (M : Mch) (H0 H : Hp) (wl : Addr) (t : Addr) (e : Node) : Prop where
  ex : ∃ sa ra : Addr, H t = some (.tup [.ref sa, .ref ra]) ∧ HK1 H e.1 sa ∧ H ra = some (.lst ((lets M.L zz e.2).map V.str)) ∧ ra ≠ wl ∧ H0 ra = none
structure Sea (P : Program) (w : World) (wl ma : Addr) (H : Hp) (ts : List Addr) (xs : List (NK × Addr)) : Prop where
  wa : H wl = some (.lst (ts.map V.ref))
  mt : H ma = some (NDO P w ma xs)
  en : Ents H xs
theorem ndo_ne {P : Program} {w : World} {a : Addr} {xs : List (NK × Addr)} (o : HO) (h : ∀ φ, o ≠ .ext φ) : o ≠ NDO P w a xs := fun e => h _ e
theorem sb_tup {P : Program} {w : World} {wl ma : Addr} {H H' : Hp} {ts : List Addr} {xs : List (NK × Addr)} (S : Sea P w wl ma H ts xs) (s : SB wl ma H H') : TupKeep H H' := fun b xs e =>
  s b _ e (ne_of e S.wa (by intro z; cases z)) (ne_of e S.mt (by intro z; cases z))
theorem NodeAt.sb {P : Program} {w : World} {wl ma : Addr} {M : Mch} {H0 H H' : Hp} {ts : List Addr} {xs : List (NK × Addr)} {t : Addr} {e : Node} (S : Sea P w wl ma H ts xs) (n : NodeAt M H0 H wl t e) (s : SB wl ma H H') : NodeAt M H0 H' wl t e := by
  obtain ⟨sa, ra, h1, h2, h3, h4, h5⟩ := n.ex
  have k := sb_tup S s
  exact ⟨sa, ra, k _ _ h1, h2.mono k, s _ _ h3 h4 (ne_of h3 S.mt (by intro z; cases z)), h4, h5⟩
theorem Sea.same {P : Program} {w : World} {wl ma : Addr} {H H' : Hp} {ts : List Addr} {xs : List (NK × Addr)} (S : Sea P w wl ma H ts xs) (s : Same H H') : Sea P w wl ma H' ts xs :=
  ⟨s _ _ S.wa, s _ _ S.mt, S.en.mono fun b xs e => s _ _ e⟩
section
variable {P : Program} {w : World} {K : PySem.W.Frag} {mg : Str → Option Value} {base : Heap} {C : Addr}
def spReset (C : Addr) : Sp := fun vs H Q _ => ∃ (b : Addr) (M : Mch), vs = [.ref b] ∧ BoxAt C H b M ∧ M.Ok ∧
  (∀ (x : List Nat) (r : Addr) (H' : Hp), Fst M x → H r = none → H' r = some (.lst ((lets M.L zz x).map V.str)) → Same H H' → Q (.ref r) H') ∧ (NoRes M → ∀ H', Same H H' → Q .non H')
/-- what stands at each turn -/
structure Turn1 (P : Program) (w : World) (M : Mch) (wl ma : Addr) (H0 H : Hp) (all : List Node) (p i : Nat) (ts : List Addr) (xs : List (NK × Addr)) : Prop where
  S : Sea P w wl ma H ts xs
  B : BfsM M M.S all p i
  R : Srch M M.S all
  K : xs.map (·.1) = all.map fun e => K1 e.1
  sm : Same H0 H
theorem c_reset_aux {all : List Node} {xs : List (NK × Addr)} (hk : xs.map (·.1) = all.map fun e => K1 e.1) (ys : List Str) : K1 ys ∈ xs.map (·.1) ↔ ∃ e ∈ all, e.1 = ys := by
  rw [hk, List.mem_map]
  exact ⟨fun ⟨e, he, q⟩ => ⟨e, he, K1_inj q⟩, fun ⟨e, he, q⟩ => ⟨e, he, by rw [q]⟩⟩
abbrev sc_reset_row_st : Stmt := top 9
abbrev sc_reset_row_N : List Str := ["box", "begin", "waiting", "met", "states", "row", "letter", "later", "state"]
theorem sc_reset_row : FnScope sc_reset_row_N ["box"] (C8.fnScope sc_reset_row_st) := C8.fnScope_by (by decide +kernel)
theorem c_reset_row (T : Txt K mg) (c : CTxt K C) (m_states : Met1 P w K mg base C 1 "states" (spStates C)) (m_letters : Met1 P w K mg base C 1 "letters" (spLetters C)) (m_move : Met1 P w K mg base C 2 "move" (spMove C)) (D : Dfn K mg "reset_row" sc_reset_row_st ["box"]) : Call1 P w K mg base 3 "reset_row" (spReset C) := by
  refine D.cal sc_reset_row (fun vs H Q E h => ?_) (fun f cdv A outer s H vs Q E hr h => ?_)
  · obtain ⟨b, M, rfl, _⟩ := h
    rfl
  · obtain ⟨b, M, rfl, Bx, ok, k1, k2⟩ := h
    have hu := hr.units
    obtain ⟨dx, m, fs, h1, h2, h3, h4⟩ := id Bx
    have lkS := h3 "states" (by decide +kernel) (by decide +kernel)
    have lkL := h3 "letters" (by decide +kernel) (by decide +kernel)
    have lkM := h3 "move" (by decide +kernel) (by decide +kernel)
    refine ⟨_, (pss_cons (ps_set (i := 1) sc_reset_row.nd rfl (by first | exact Or.inl rfl | exact Or.inr rfl) (pe_callTy (tupleK K) (by rfl) T.n_tuple (by decide +kernel) (pa_cons (C8.pe_mt0 m_states hr (by decide) (pv 0)) pa_nil)))
    (pss_cons (ps_par (i := 2) (j := 3) (by rfl) sc_reset_row.nd rfl rfl (by decide) rfl rfl (pa_cons (pe_lst (pa_cons (pe_tup (pa_cons (pv 1) (pa_cons (pe_lst pa_nil) pa_nil))) pa_nil)) (pa_cons (pe_ndispP P w hu (pps_cons (pv 1) pe_bl pps_nil) (by rfl) (by rfl) (fun z => by cases z) (by decide)) pa_nil)) (by rfl))
    (pss_cons (ps_while PassesOwn.never (pt_cmpR op_gt (pe_callB (lenK K) (by rfl) T.n_len (by decide +kernel) (pa_cons (pv 2) pa_nil)) pe_int (nomark _))
     (pss_cons (ps_asg (bmK K PySem.F.plainAttrs_list PySem.F.slot_list_pop PySem.F.type_list_pop mt_popAt (pv 2) (pa_cons pe_int pa_nil)) (tupG K (n := 2) rfl (pgs_cons (pg_name (i := 4) sc_reset_row.nd rfl (by first | exact Or.inl rfl | exact Or.inr rfl)) (pgs_cons (pg_name (i := 5) sc_reset_row.nd rfl (by first | exact Or.inl rfl | exact Or.inr rfl)) pgs_nil))))
      (pss_cons (ps_if (pt_cmpR op_eq (pe_callB (lenK K) (by rfl) T.n_len (by decide +kernel) (pa_cons (pv 4) pa_nil)) pe_int (nomark _)) (pss_one (ps_ret (pv 5)))
       pss_nil)
      (pss_one (ps_for PassesOwn.never rfl (listI K (C8.pe_mt0 m_letters hr (by decide) (pv 0))) (pg_name (i := 6) sc_reset_row.nd rfl (by first | exact Or.inl rfl | exact Or.inr rfl))
       (pss_cons (ps_set (i := 7) sc_reset_row.nd rfl (by first | exact Or.inl rfl | exact Or.inr rfl) (pe_callTy (tupleK K) (by rfl) T.n_tuple (by decide +kernel) (pa_cons (sortSet K rfl (by rfl) T.n_sorted (by rfl) T.n_set (pe_lc (own := [("state", 8)]) (g := (gName 8)) (tt := tYes) rfl sc_reset_row.nd (tupI K (pv 4)) (blkOk_by (N := sc_reset_row_N) (sc := C8.fnScope sc_reset_row_st) (by decide +kernel)) (fun _ _ _ _ _ => (pg_name (i := 8) sc_reset_row.nd rfl (by first | exact Or.inl rfl | exact Or.inr rfl))) (fun _ _ _ _ _ => pts_nil) (fun _ _ _ _ _ => (pe_ix (ix_tupK K) (C8.pe_mt m_move hr (by decide) (pv 0) (pa_cons (pv 8) (pa_cons (pv 6) pa_nil))) pe_int (fun _ _ => rfl))))) pa_nil)))
        (pss_one (ps_if (pt_cmp (pc_nnotP P w hu (pv 7) (pv 3)) rfl) (pss_cons (ps_nputP P w hu (pv 3) (pv 7) pe_bl rfl)
          (pss_one (ps_expr (bmK K PySem.F.plainAttrs_list PySem.F.slot_list_append PySem.F.type_list_append mt_append (pv 2) (pa_cons (pe_tup (pa_cons (pv 7) (pa_cons (pe_op op_cat (pv 5) (pe_lst (pa_cons (pv 6) pa_nil))) pa_nil))) pa_nil)))))
         pss_nil))))))))
    (pss_one (ps_ret pe_non))))), ?_⟩
    refine ⟨_, rfl, b, dx, fs, rfl, h1, lkS, b, M, rfl, Bx, ok, fun ls H1 hls gls sm1 => ⟨ls, _, rfl, .inl ⟨SqL.of gls, fun bt hbt => ?_⟩⟩⟩
    have sb1 := same_upd2 (o := .tup (M.S.map V.str)) sm1 (Same.free sm1 hbt)
    have hbt1 : (upd H1 bt (.tup (M.S.map V.str))) bt = some (.tup (M.S.map V.str)) := upd_same
    generalize upd H1 bt (.tup (M.S.map V.str)) = H2 at sb1 hbt1
    refine ⟨_, rfl, sz_le (by show 0 ≤ 1000; decide), fun rl hrl => ⟨sz_le (by show 2 ≤ 1000; decide), fun tn htn => ⟨sz_le (by show 1 ≤ 1000; decide), fun wl hwl => ?_⟩⟩⟩
    have s3 := same_upd (o := .lst []) hrl
    have s4 := same_upd (o := .tup [.ref bt, .ref rl]) htn
    have s5 := same_upd (o := .lst [.ref tn]) hwl
    have g3 : (upd H2 rl (.lst [])) rl = some (.lst []) := upd_same
    generalize upd H2 rl (.lst []) = H3 at s3 s4 s5 g3 htn hwl
    have hrl0 : H rl = none := Same.free sb1 hrl
    have g4 : (upd H3 tn (.tup [.ref bt, .ref rl])) tn = some (.tup [.ref bt, .ref rl]) := upd_same
    generalize upd H3 tn (.tup [.ref bt, .ref rl]) = H4 at s4 s5 g4 hwl
    have g5 : (upd H4 wl (.lst [.ref tn])) wl = some (.lst [.ref tn]) := upd_same
    have nrl : rl ≠ wl := ne_of_none (s4 _ _ g3) hwl
    have hwl0 : H wl = none := Same.free sb1 (Same.free s3 (Same.free s4 hwl))
    generalize upd H4 wl (.lst [.ref tn]) = H5 at s5 g5
    have s25 : Same H2 H5 := Same.tr s3 (Same.tr s4 s5)
    intro ma hma
    have s6 := same_upd (o := NDO P w ma []) hma
    have hma0 : H ma = none := Same.free sb1 (Same.free s25 hma)
    have nwm : wl ≠ ma := ne_of_none g5 hma
    have k0 : HK1 (upd H5 ma (NDO P w ma [])) M.S bt := s6 _ _ (s25 _ _ hbt1)
    refine ⟨_, rfl, bt, K1 M.S, rfl, rfl, upd_same, .inl ⟨M.S, rfl, k0⟩, _, _, rfl, ?_⟩
    have s7 : Same H5 (upd (upd H5 ma (NDO P w ma [])) ma (NDO P w ma [(K1 M.S, bt)])) := fun q o e => by rw [upd_ne (ne_of_none e hma)]; exact s6 _ _ e
    have g7 : (upd (upd H5 ma (NDO P w ma [])) ma (NDO P w ma [(K1 M.S, bt)])) ma = some (NDO P w ma [(K1 M.S, bt)]) := upd_same
    generalize upd (upd H5 ma (NDO P w ma [])) ma (NDO P w ma [(K1 M.S, bt)]) = H7 at s7 g7
    have sm7 : Same H H7 := Same.tr sb1 (Same.tr s25 s7)
    have hk7 : HK1 H7 M.S bt := s7 _ _ (s25 _ _ hbt1)
    have T0 : Turn1 P w M wl ma H H7 [(M.S, [])] 0 0 [tn] [(K1 M.S, bt)] := ⟨⟨s7 _ _ g5, g7, fun x hx => by
      rw [List.mem_singleton.mp hx]; exact .inl ⟨M.S, rfl, hk7⟩⟩, Bfs.init, Srch.init M M.S, rfl, sm7⟩
    have N0 : NodeAt M H H7 wl tn (M.S, []) := ⟨bt, rl, s7 _ _ (s5 _ _ g4), hk7, s7 _ _ (s5 _ _ (s4 _ _ g3)), nrl, hrl0⟩
    refine ⟨fun m σ H2 => ∃ (all : List Node) (p : Nat) (ts : List Addr) (xs : List (NK × Addr)) (v4 v5 v6 v7 : Option V), σ = [some (.ref b), some (.ref bt), some (.ref wl), some (.ref ma), v4, v5, v6, v7, none] ∧ Turn1 P w M wl ma H H2 all p 0 ts xs ∧ Paired (NodeAt M H H2 wl) ts (all.drop p) ∧ p ≤ all.length ∧ m = 300 - p,
      ⟨_, _, _, _, _, none, none, none, none, rfl, T0, .cons N0 .nil, Nat.zero_le _, rfl⟩, ?_⟩
    rintro m2 σ H2 ⟨all, p, ts, xs, v4, v5, v6, v7, rfl, U, pd, hp, rfl⟩
    have hlen := U.R.len ok
    refine ⟨_, rfl, .ref wl, ts.length, rfl, .inl ⟨_, SqL.of U.S.wa, by rw [List.length_map]⟩, ts.length, 0, rfl, rfl, _, rfl, ?_⟩
    have hts := paired_len pd
    rw [List.length_drop] at hts
    by_cases hpl : p < all.length
    · have hd : all.drop p = all[p] :: all.drop (p + 1) := List.drop_eq_getElem_cons hpl
      rw [hd] at pd
      have hf : all[p]? = some all[p] := List.getElem?_eq_getElem hpl
      generalize all[p] = fn at pd hf
      refine iteDT (by omega) ?_
      cases pd with
      | @cons t0 _ ts' _ nd pd' =>
        obtain ⟨sa, ra, n1, n2, n3, n4, n5⟩ := nd.ex
        refine ⟨fun σ' H' => ∃ m', m' < 300 - p ∧ ∃ (all : List Node) (p : Nat) (ts : List Addr) (xs : List (NK × Addr)) (v4 v5 v6 v7 : Option V), σ' = [some (.ref b), some (.ref bt), some (.ref wl), some (.ref ma), v4, v5, v6, v7, none] ∧ Turn1 P w M wl ma H H' all p 0 ts xs ∧ Paired (NodeAt M H H' wl) ts (all.drop p) ∧ p ≤ all.length ∧ m' = 300 - p, fun σ' H' z => z, ?_⟩
        refine ⟨_, rfl, .inl ⟨rfl, _, SqL.of U.S.wa⟩, wl, _, 0, 0, _, rfl, rfl, U.S.wa, by decide, by decide, by rw [List.length_map, List.length_cons]; simp [seqIndex?], rfl, ?_⟩
        have sb3 : SB wl ma H2 (upd H2 wl (.lst (ts'.map V.ref))) := fun q o e h1 _ => by rw [upd_ne h1]; exact e
        have e3 : ((t0 :: ts').map V.ref).eraseIdx 0 = ts'.map V.ref := by simp
        rw [e3]
        have S3 : Sea P w wl ma (upd H2 wl (.lst (ts'.map V.ref))) ts' xs := ⟨upd_same, by rw [upd_ne nwm.symm]; exact U.S.mt, U.S.en.mono (sb_tup U.S sb3)⟩
        have pd3 : Paired (NodeAt M H (upd H2 wl (.lst (ts'.map V.ref))) wl) ts' (all.drop (p + 1)) := paired_imp (fun a x _ e => e.sb U.S sb3) pd'
        have tk3 := sb_tup U.S sb3
        have n13 := tk3 _ _ n1
        have n23 : HK1 (upd H2 wl (.lst (ts'.map V.ref))) fn.1 sa := n2.mono tk3
        have n33 : (upd H2 wl (.lst (ts'.map V.ref))) ra = some (.lst ((lets M.L zz fn.2).map V.str)) := by rw [upd_ne n4]; exact n3
        have sm3 : Same H (upd H2 wl (.lst (ts'.map V.ref))) := fun q o e => by rw [upd_ne (ne_of_none e hwl0)]; exact U.sm _ _ e
        have U3 : Turn1 P w M wl ma H (upd H2 wl (.lst (ts'.map V.ref))) all p 0 ts' xs := ⟨S3, U.B, U.R, U.K, sm3⟩
        generalize upd H2 wl (.lst (ts'.map V.ref)) = H3 at S3 pd3 n13 n23 n33 sm3 U3
        refine ⟨t0, _, rfl, SqT.of n13, rfl, _, _, rfl, _, _, rfl, rfl, ?_⟩
        refine ⟨_, rfl, .ref sa, fn.1.length, rfl, .inr ⟨_, SqT.of n23, by rw [List.length_map]⟩, rfl, _, rfl, ?_⟩
        by_cases hg : fn.1.length = 1
        · refine iteDT (by rw [hg]; rfl) ⟨_, rfl, ?_⟩
          exact k1 fn.2 ra H3 (first_of ok (fun _ => Iff.rfl) ok.sn U.B hf hg) n5 n33 sm3
        refine iteDF (fun e => hg (by injection e with e; omega)) ?_
        refine ⟨_, rfl, b, dx, fs, rfl, sm3 _ _ h1, lkL, b, M, rfl, Bx.same sm3, ok, fun ll H4 hll gll sm4 => ⟨ll, rfl, ⟨_, SqL.of gll⟩, ?_⟩⟩
        have nlw : ll ≠ wl := (ne_of_none S3.wa hll).symm
        have U4 : Turn1 P w M wl ma H H4 all p 0 ts' xs := ⟨S3.same sm4, U3.B, U3.R, U3.K, Same.tr sm3 sm4⟩
        have pd4 : Paired (NodeAt M H H4 wl) ts' (all.drop (p + 1)) := paired_imp (fun a x _ e => e.sb S3 (sb_of sm4)) pd3
        refine for_list (K := K) (a := ll) (xs := M.L.map V.str) (fun i σ H5 => ∃ (all : List Node) (ts : List Addr) (xs : List (NK × Addr)) (v6 v7 : Option V), σ = [some (.ref b), some (.ref bt), some (.ref wl), some (.ref ma), some (.ref sa), some (.ref ra), v6, v7, none] ∧
          Turn1 P w M wl ma H H5 all p i ts xs ∧ Paired (NodeAt M H H5 wl) ts (all.drop (p + 1)) ∧ all[p]? = some fn ∧ HK1 H5 fn.1 sa ∧ H5 ra = some (.lst ((lets M.L zz fn.2).map V.str)) ∧ H5 ll = some (.lst (M.L.map V.str)))
          ⟨all, ts', xs, v6, v7, rfl, U4, pd4, hf, sm4 _ _ n23, sm4 _ _ n33, gll⟩ (fun i σ H5 _ ⟨_, _, _, _, _, _, _, _, _, _, _, h⟩ => SqL.of h) ?_ ?_
        · rintro i x σ H5 hi ⟨all, ts, xs, v6, v7, rfl, U, pd, hf, hsa, hra, gl5⟩
          obtain ⟨a, ha, rfl⟩ := str_at hi
          have haL := List.mem_of_getElem? ha
          have hsub := U.R.sub (fun _ h => h) fn (List.mem_of_getElem? hf)
          have hfew := U.R.few ok (fun _ h => h) ok.sn fn (List.mem_of_getElem? hf)
          refine ⟨_, rfl, sa, rfl, ⟨_, SqT.of hsa⟩, fun Dn hD => ?_⟩
          refine lc_tup (K := K) (a := sa) (xs := fn.1.map V.str) (fun j H6 => H6 Dn = some (.lst (((fn.1.take j).map fun s => M.d s a).map V.str)) ∧ Same H5 H6) ⟨upd_same, same_upd hD⟩ (fun i H6 _ h => SqT.of (h.2 _ _ hsa)) ?_ ?_
          · rintro j y H6 hj ⟨gD, sm6⟩
            obtain ⟨s, hs, rfl⟩ := str_at hj
            have s06 := Same.tr U.sm sm6
            refine ⟨rfl, _, rfl, b, dx, fs, rfl, s06 _ _ h1, lkM, _, rfl, _, rfl, b, M, s, a, rfl, Bx.same s06, hsub s (List.mem_of_getElem? hs), haL, fun q hq => ⟨q, _, 1, _, rfl, rfl, SqT.of hq, rfl, _, gD, small1000 ?_, ?_, ?_⟩⟩
            · rw [List.length_map, List.length_map, List.length_take]; omega
            · rw [upd_same, take_snoc hs, List.map_append, List.map_append]; rfl
            · exact fun z o e => by rw [upd_ne (ne_of_none e hD)]; exact sm6 z o e
          · rintro H6 ⟨gD, sm6⟩
            rw [List.length_map, List.take_length] at gD
            refine ⟨Dn, _, rfl, SqL.of gD, by rw [List.length_map]; omega, fun ys lp up hmem hlp => ⟨lp, _, rfl, .inl ⟨SqL.of upd_same, fun la hla => ?_⟩⟩⟩
            have ey := step_of ha up hmem
            have s67 := same_upd (o := .lst (ys.map V.str)) hlp
            have s68 := same_upd2 (o := .tup (ys.map V.str)) s67 (Same.free s67 hla)
            have sm8 := Same.tr sm6 s68
            have hla8 : HK1 (upd (upd H6 lp (.lst (ys.map V.str))) la (.tup (ys.map V.str))) ys la := upd_same
            generalize upd (upd H6 lp (.lst (ys.map V.str))) la (.tup (ys.map V.str)) = H8 at sm8 hla8
            have S8 := U.S.same sm8
            have pd8 : Paired (NodeAt M H H8 wl) ts (all.drop (p + 1)) := paired_imp (fun a x _ e => e.sb U.S (sb_of sm8)) pd
            have hra8 := sm8 _ _ hra
            have hsa8 : HK1 H8 fn.1 sa := sm8 _ _ hsa
            refine ⟨_, rfl, _, rfl, ma, la, xs, K1 ys, rfl, rfl, S8.mt, S8.en, .inl ⟨ys, rfl, hla8⟩, _, rfl, ?_⟩
            have hi2 : i < M.L.length := (List.getElem?_eq_some_iff.mp ha).1
            by_cases hin : K1 ys ∈ xs.map (·.1)
            · refine iteNS hin ?_
              obtain ⟨e, he, h2⟩ := (c_reset_aux U.K ys).mp hin
              exact ⟨all, ts, xs, _, _, rfl, ⟨S8, U.B.skip hf hi2 ⟨e, he, by rw [h2, ey]⟩, U.R, U.K, Same.tr U.sm sm8⟩, pd8, hf, hsa8, hra8, sm8 _ _ gl5⟩
            · refine iteNT hin ?_
              have hxl : xs.length = all.length := by
                have := congrArg List.length U.K
                rw [List.length_map, List.length_map] at this; exact this
              have hal := U.R.len ok
              refine ⟨_, rfl, _, rfl, ma, la, xs, K1 ys, rfl, rfl, rfl, S8.mt, S8.en, .inl ⟨ys, rfl, hla8⟩, hin, by omega, ?_⟩
              have hma9 : (upd H8 ma (NDO P w ma (xs ++ [(K1 ys, la)]))) ma = some (NDO P w ma (xs ++ [(K1 ys, la)])) := upd_same
              have sb9 : SB wl ma H8 (upd H8 ma (NDO P w ma (xs ++ [(K1 ys, la)]))) := fun q o e _ h2 => by rw [upd_ne h2]; exact e
              have wa9 : (upd H8 ma (NDO P w ma (xs ++ [(K1 ys, la)]))) wl = some (.lst (ts.map V.ref)) := by rw [upd_ne nwm]; exact S8.wa
              have nrm : ra ≠ ma := ne_of hra8 S8.mt (by intro z; cases z)
              have hra9 : (upd H8 ma (NDO P w ma (xs ++ [(K1 ys, la)]))) ra = some (.lst ((lets M.L zz fn.2).map V.str)) := by rw [upd_ne nrm]; exact hra8
              have hla9 := sb_tup S8 sb9 _ _ hla8
              generalize upd H8 ma (NDO P w ma (xs ++ [(K1 ys, la)])) = H9 at hma9 sb9 wa9 hra9 hla9
              refine ⟨_, rfl, .inl ⟨rfl, _, SqL.of wa9⟩, _, rfl, _, rfl, _, rfl, sz_le (by show 1 ≤ 1000; decide), fun al1 hal1 => ?_⟩
              have s10 := same_upd (o := .lst [.str a]) hal1
              have hfl := word_len U.B hf
              refine ⟨ra, al1, _, _, rfl, rfl, s10 _ _ hra9, upd_same, by rw [List.length_map, lets_len]; exact sz_le (by show fn.2.length + 1 ≤ 1000; omega), fun al hal => ⟨sz_le (by show 2 ≤ 1000; decide), fun tn htn => ?_⟩⟩
              have s11 := same_upd2 (o := .lst ((lets M.L zz fn.2).map V.str ++ [V.str a])) s10 (Same.free s10 hal)
              have hal11 : (upd (upd H9 al1 (.lst [.str a])) al (.lst ((lets M.L zz fn.2).map V.str ++ [V.str a]))) al = some (.lst ((lets M.L zz (fn.2 ++ [i])).map V.str)) := by
                rw [upd_same, lets_add M.L fn.2 ha, List.map_append]; rfl
              have hal9 : H9 al = none := Same.free s10 hal
              generalize upd (upd H9 al1 (.lst [.str a])) al (.lst ((lets M.L zz fn.2).map V.str ++ [V.str a])) = H11 at s11 hal11 htn
              have s12 := same_upd2 (o := .tup [.ref la, .ref al]) s11 (Same.free s11 htn)
              have hal12 : (upd H11 tn (.tup [.ref la, .ref al])) al = some (.lst ((lets M.L zz (fn.2 ++ [i])).map V.str)) := by rw [upd_ne (ne_of_none hal11 htn)]; exact hal11
              have htn12 : (upd H11 tn (.tup [.ref la, .ref al])) tn = some (.tup [.ref la, .ref al]) := upd_same
              generalize upd H11 tn (.tup [.ref la, .ref al]) = H12 at s12 hal12 htn12
              have wa12 := s12 _ _ wa9
              have hts2 := paired_len pd8
              rw [List.length_drop] at hts2
              refine ⟨wl, _, _, rfl, rfl, wa12, small1000 (by rw [List.length_map]; omega), ?_⟩
              have sb13 : SB wl ma H8 (upd H12 wl (.lst (ts.map V.ref ++ [V.ref tn]))) := fun q o e n1 n2 => by rw [upd_ne n1]; exact s12 _ _ (sb9 q o e n1 n2)
              have tk13 := sb_tup S8 sb13
              have key : ∀ q o, H12 q = some o → q ≠ wl → (upd H12 wl (.lst (ts.map V.ref ++ [V.ref tn]))) q = some o := fun q o e n => by rw [upd_ne n]; exact e
              have nal : al ≠ wl := (ne_of_none wa9 hal9).symm
              have h0al : H al = none := by
                have h8 : ∀ o, H8 al = some o → False := fun o e => by
                  have h1 : al ≠ wl := nal
                  have h2 : al ≠ ma := (ne_of_none hma9 hal9).symm
                  rw [sb9 al o e h1 h2] at hal9; cases hal9
                cases e : H al with
                | none => rfl
                | some o => exact (h8 o (Same.tr U.sm sm8 _ _ e)).elim
              have hpl2 : p + 1 ≤ all.length := (List.getElem?_eq_some_iff.mp hf).1
              refine ⟨all ++ [(ys, fn.2 ++ [i])], ts ++ [tn], xs ++ [(K1 ys, la)], _, _, rfl, ⟨⟨?_, ?_, ?_⟩, ?_, ?_, ?_, ?_⟩, ?_, get_app hf, hsa8.mono tk13, key _ _ (s12 _ _ hra9) n4, ?_⟩
              · rw [upd_same, List.map_append]; rfl
              · exact key _ _ (s12 _ _ hma9) nwm.symm
              · intro x hx
                rcases List.mem_append.mp hx with hx | hx
                · exact (S8.en x hx).mono tk13
                · rw [List.mem_singleton.mp hx]
                  exact .inl ⟨ys, rfl, key _ _ (s12 _ _ hla9) (ne_of (s12 _ _ hla9) wa12 (by intro z; cases z))⟩
              · rw [ey]; exact U.B.add hf hi2
              · refine U.R.add up (fun x hx => ?_) fun hm => hin ?_
                · obtain ⟨s, hs, e⟩ := List.mem_map.mp ((hmem x).mp hx)
                  rw [← e]; exact ok.st s (hsub s hs) a haL
                · obtain ⟨e, he, h2⟩ := List.mem_map.mp hm
                  exact (c_reset_aux U.K ys).mpr ⟨e, List.mem_of_mem_tail he, h2⟩
              · rw [List.map_append, List.map_append, U.K]; rfl
              · exact fun q o e => key _ _ (s12 _ _ (sb9 _ _ (Same.tr U.sm sm8 q o e) (ne_of_none e hwl0) (ne_of_none e hma0))) (ne_of_none e hwl0)
              · rw [List.drop_append_of_le_length hpl2]
                refine paired_snoc ⟨la, al, key _ _ htn12 (ne_of htn12 wa12 (by intro z; cases z)), key _ _ (s12 _ _ hla9) (ne_of (s12 _ _ hla9) wa12 (by intro z; cases z)), key _ _ hal12 nal, nal, h0al⟩ ?_
                exact paired_imp (fun q x _ e => e.sb S8 sb13) pd8
              · have g8 := sm8 _ _ gl5
                exact sb13 _ _ g8 nlw (ne_of g8 S8.mt (by intro z; cases z))
        · rintro σ H5 ⟨all, ts, xs, v6, v7, rfl, U, pd, hf, hsa, hra, gl5⟩
          rw [List.length_map] at U
          have hpl2 : p < all.length := (List.getElem?_eq_some_iff.mp hf).1
          have := U.R.len ok
          exact ⟨300 - (p + 1), by omega, all, p + 1, ts, xs, _, _, _, _, rfl, ⟨U.S, U.B.fin hf hg, U.R, U.K, U.sm⟩, pd, by omega, rfl⟩
    · refine iteDF (by omega) ?_
      have hr1 : NoRes M := none_of ok (fun _ => Iff.rfl) ok.sn U.B (by omega)
      exact k2 hr1 _ U.sm
end
end K45
end
section
set_option maxRecDepth 100000
set_option maxHeartbeats 4000000
namespace K45
open PySem PySem.Spec L2
theorem paired_get2 {α β : Type} {F : α → β → Prop} : ∀ {as : List α} {xs : List β}, Paired F as xs → ∀ {i : Nat} {x : β}, xs[i]? = some x → ∃ a, as[i]? = some a ∧ F a x
  | _, _, .nil, i, a, h => by simp at h
  | _, _, .cons r t, 0, a, h => by
    simp at h
    subst h
    exact ⟨_, rfl, r⟩
  | _, _, .cons r t, i + 1, a, h => by
    simpa using paired_get2 t (by simpa using h)
theorem hk1_same {H H' : Hp} (s : Same H H') {ls : List (List Str)} {cs : List Addr} (h : Paired (HK1 H) ls cs) : Paired (HK1 H') ls cs := Paired.mapP h fun a b e => s _ _ e
def imL (M : Mch) (k : List Str) (a : Str) : List Str := canon sltb (k.map fun s => M.d s a)
def lotsF (M : Mch) (a : Str) : List (List Str) → List (List Str)
  | [] => []
  | k :: _ => if 1 < (imL M k a).length then [imL M k a] else []
section
variable {P : Program} {w : World} {K : PySem.W.Frag} {mg : Str → Option Value} {base : Heap} {C : Addr}
/-- the lots: none or one -/
structure Lots (M : Mch) (ls : List (List Str)) : Prop where
  one : ls.length ≤ 1
  ok : ∀ k ∈ ls, k ≠ [] ∧ k.length ≤ 8 ∧ ∀ x ∈ k, x ∈ M.S
def spLater (C : Addr) : Sp := fun vs H Q _ => ∃ (b lt : Addr) (M : Mch) (a o : Str) (ls : List (List Str)), vs = [.ref b, .ref lt, .str a] ∧ BoxAt C H b M ∧ M.Ok ∧ a ∈ M.L ∧ (∀ s ∈ M.S, M.g s a = o) ∧ HK2 H ls lt ∧ Lots M ls ∧
  ∀ (t : Addr) (H' : Hp), HK2 H' (lotsF M a ls) t → Same H H' → Q (.ref t) H'
abbrev sc_later_lots_st : Stmt := top 17
abbrev sc_later_lots_N : List Str := ["box", "lots", "letter", "found", "lot", "parts", "state", "sign", "later", "part"]
theorem sc_later_lots : FnScope sc_later_lots_N ["box", "lots", "letter"] (C8.fnScope sc_later_lots_st) := C8.fnScope_by (by decide +kernel)
theorem c_later_lots (T : Txt K mg) (c : CTxt K C) (m_move : Met1 P w K mg base C 2 "move" (spMove C)) (D : Dfn K mg "later_lots" sc_later_lots_st ["box", "lots", "letter"]) : Call1 P w K mg base 3 "later_lots" (spLater C) := by
  refine D.cal sc_later_lots (fun vs H Q E h => ?_) (fun f cdv A outer s H vs Q E hr h => ?_)
  · obtain ⟨b, lt, M, a, o, ls, rfl, _⟩ := h
    rfl
  · obtain ⟨b, lt, M, a, o, ls, rfl, Bx, ok, haL, hg, hlt, hls, k⟩ := h
    have hu := hu_of hr
    obtain ⟨dx, m, fs, h1, h2, h3, h4⟩ := id Bx
    have lkM := h3 "move" (by decide +kernel) (by decide +kernel)
    obtain ⟨cs, glt, pcs⟩ := hlt
    refine ⟨_, (pss_cons (ps_set (i := 3) sc_later_lots.nd rfl (by first | exact Or.inl rfl | exact Or.inr rfl) (pe_lst pa_nil))
    (pss_cons (ps_for PassesOwn.never rfl (tupI K (pv 1)) (pg_name (i := 4) sc_later_lots.nd rfl (by first | exact Or.inl rfl | exact Or.inr rfl))
     (pss_cons (ps_set (i := 5) sc_later_lots.nd rfl (by first | exact Or.inl rfl | exact Or.inr rfl) pe_dnewK)
      (pss_cons (ps_for PassesOwn.never rfl (tupI K (pv 4)) (pg_name (i := 6) sc_later_lots.nd rfl (by first | exact Or.inl rfl | exact Or.inr rfl))
       (pss_cons (ps_asg (C8.pe_mt m_move hr (by decide) (pv 0) (pa_cons (pv 6) (pa_cons (pv 2) pa_nil))) (tupG K (n := 2) rfl (pgs_cons (pg_name (i := 7) sc_later_lots.nd rfl (by first | exact Or.inl rfl | exact Or.inr rfl)) (pgs_cons (pg_name (i := 8) sc_later_lots.nd rfl (by first | exact Or.inl rfl | exact Or.inr rfl)) pgs_nil))))
        (pss_one (ps_dput hu (pv 5) (pv 7) (pe_op op_cat (pe_dget2 hu (pv 5) (pv 7) (pe_lst pa_nil) ⟨by rfl, by rfl, by rfl, by rfl⟩) (pe_lst (pa_cons (pv 8) pa_nil))) rfl))))
      (pss_one (ps_expr (bmK K PySem.F.plainAttrs_list PySem.F.slot_list_extend PySem.F.type_list_extend mt_extend (pv 3) (pa_cons (pe_lock (pe_lc (own := [("part", 9)]) (g := (gName 9)) (tt := tYes) rfl sc_later_lots.nd (pi_values (pv 5)) (blkOk_by (N := sc_later_lots_N) (sc := C8.fnScope sc_later_lots_st) (by decide +kernel)) (fun _ _ _ _ _ => (pg_name (i := 9) sc_later_lots.nd rfl (by first | exact Or.inl rfl | exact Or.inr rfl))) (fun _ _ _ _ _ => pts_nil) (fun _ _ _ _ _ => (pe_callTy (tupleK K) (by rfl) T.n_tuple (by decide +kernel) (pa_cons (sortSet K rfl (by rfl) T.n_sorted (by rfl) T.n_set (pv 9)) pa_nil))))) pa_nil)))))))
    (pss_one (ps_ret (pe_callTy (tupleK K) (by rfl) T.n_tuple (by decide +kernel) (pa_cons (sortOne K (hu100_of hr) rfl (by rfl) T.n_sorted (by rfl) T.n_set (pe_lc (own := [("lot", 4)]) (g := (gName 4)) rfl sc_later_lots.nd (listI K (pv 3)) (blkOk_by (N := sc_later_lots_N) (sc := C8.fnScope sc_later_lots_st) (by decide +kernel)) (fun _ _ _ _ _ => (pg_name (i := 4) sc_later_lots.nd rfl (by first | exact Or.inl rfl | exact Or.inr rfl))) (fun _ _ _ _ _ => (pts_one (pt_cmpR op_gt (pe_callB (lenK K) (by rfl) T.n_len (by decide +kernel) (pa_cons (pv 4) pa_nil)) pe_int (nomark _)))) (fun _ _ _ _ _ => (pv 4)))) pa_nil)))))), ?_⟩
    refine ⟨sz_le (by show 0 ≤ 1000; decide), fun fo hfo => ?_⟩
    have s0 := same_upd (o := .lst []) hfo
    refine ⟨_, rfl, lt, rfl, ⟨_, SqT.of (s0 _ _ glt)⟩, for_tup (K := K) (a := lt) (xs := cs.map V.ref) (fun i σ H1 => ∃ (v4 v5 v6 v7 v8 : Option V) (us : List Addr), σ = [some (.ref b), some (.ref lt), some (.str a), some (.ref fo), v4, v5, v6, v7, v8, none] ∧ H1 fo = some (.lst (us.map V.ref)) ∧
      Paired (HK1 H1) ((ls.take i).map fun k => imL M k a) us ∧ Same H H1) ⟨none, none, none, none, none, [], rfl, upd_same, .nil, s0⟩ (fun i σ H1 _ ⟨_, _, _, _, _, _, _, _, _, s⟩ => SqT.of (s _ _ glt)) ?_ ?_⟩
    · rintro i x σ H1 hi ⟨v4, v5, v6, v7, v8, us, rfl, gfo, pus, sm1⟩
      obtain ⟨ca, hca, rfl⟩ := refs_get hi
      obtain ⟨kk, hkk, hk1⟩ := paired_get2 pcs hca
      have hko := hls.ok kk (List.mem_of_getElem? hkk)
      have hkc : HK1 H1 kk ca := sm1 _ _ hk1
      intro pa hpa
      have s2 := same_upd (o := .dK []) hpa
      have npf : pa ≠ fo := (ne_of_none gfo hpa).symm
      refine ⟨_, rfl, ca, rfl, ⟨_, SqT.of (s2 _ _ hkc)⟩, for_tup (K := K) (a := ca) (xs := kk.map V.str) (fun j σ H2 => ∃ (v6 v7 v8 : Option V), σ = [some (.ref b), some (.ref lt), some (.str a), some (.ref fo), some (.ref ca), some (.ref pa), v6, v7, v8, none] ∧
        ((j = 0 ∧ H2 pa = some (.dK [])) ∨ ∃ l, H2 pa = some (.dK [((Sum.inr o : Key), V.ref l)]) ∧ H2 l = some (.lst (((kk.take j).map fun s => M.d s a).map V.str))) ∧ Same H1 H2) ⟨v6, v7, v8, rfl, .inl ⟨rfl, upd_same⟩, s2⟩ (fun j σ H2 _ ⟨_, _, _, _, _, s⟩ => SqT.of (s _ _ hkc)) ?_ ?_⟩
      · rintro j x σ H2 hj ⟨v6, v7, v8, rfl, hp, sm2⟩
        obtain ⟨s, hs, rfl⟩ := str_at hj
        have hsS := hko.2.2 s (List.mem_of_getElem? hs)
        have sm02 := Same.tr sm1 sm2
        have hj2 := (List.getElem?_eq_some_iff.mp hs).1
        refine ⟨_, rfl, b, dx, fs, rfl, sm02 _ _ h1, lkM, _, rfl, _, rfl, b, M, s, a, rfl, Bx.same sm02, hsS, haL, fun q hq => ⟨q, _, rfl, SqT.of hq, rfl, _, _, rfl, _, _, rfl, rfl, ?_⟩⟩
        rw [hg s hsS]
        rcases hp with ⟨rfl, hp⟩ | ⟨l, hp, hl⟩
        · refine ⟨_, rfl, pa, rfl, .inl ⟨_, .inl hp⟩, _, rfl, sz_le (by show 0 ≤ 1000; decide), fun e1 he1 => ⟨none, .inl ⟨_, Sum.inr o, .inl (same_upd he1 _ _ hp), rfl, rfl⟩, _, rfl, sz_le (by show 1 ≤ 1000; decide), fun e2 he2 => ?_⟩⟩
          have t1 := same_upd (o := .lst []) he1
          have t2 := same_upd (o := .lst [.str (M.d s a)]) he2
          refine ⟨e1, e2, [], _, rfl, rfl, t2 _ _ upd_same, upd_same, sz_le (by show 1 ≤ 1000; decide), fun nl hnl => ?_⟩
          have t3 := same_upd2 (o := .lst ([] ++ [.str (M.d s a)])) (Same.tr t1 t2) (Same.free (Same.tr t1 t2) hnl)
          have hp3 := t3 _ _ hp
          refine ⟨_, rfl, _, rfl, pa, _, rfl, DPut.k (k := Sum.inr o) hp3 (small1000 (by show 0 ≤ 1000; decide)), _, _, _, rfl, .inr ⟨nl, ?_, ?_⟩, fun q x e => ?_⟩
          · rw [upd_same]; rfl
          · rw [upd_ne (by intro e; rw [e, upd_same] at hp3; cases hp3), upd_same, take_snoc hs]; rfl
          · rw [upd_ne (ne_of_none e hpa)]; exact t3 _ _ (sm2 _ _ e)
        · have hin : valV [((Sum.inr o : Key), V.ref l)] (Sum.inr o : Key) = some (.ref l) := valV_pos rfl
          refine ⟨_, rfl, pa, rfl, .inl ⟨_, .inl hp⟩, _, rfl, sz_le (by show 0 ≤ 1000; decide), fun e1 he1 => ⟨some (.ref l), .inl ⟨_, Sum.inr o, .inl (same_upd he1 _ _ hp), rfl, hin.symm⟩, _, rfl, sz_le (by show 1 ≤ 1000; decide), fun e2 he2 => ?_⟩⟩
          have t1 := same_upd (o := .lst []) he1
          have t2 := same_upd (o := .lst [.str (M.d s a)]) he2
          refine ⟨l, e2, _, _, rfl, rfl, t2 _ _ (t1 _ _ hl), upd_same, by rw [List.length_map, List.length_map, List.length_take]; exact sz_le (by show min j kk.length + 1 ≤ 1000; have := hko.2.1; omega), fun nl hnl => ?_⟩
          have t3 := same_upd2 (o := .lst ((((kk.take j).map fun s => M.d s a).map V.str) ++ [.str (M.d s a)])) (Same.tr t1 t2) (Same.free (Same.tr t1 t2) hnl)
          have hp3 := t3 _ _ hp
          refine ⟨_, rfl, _, rfl, pa, _, rfl, DPut.k (k := Sum.inr o) hp3 (small1000 (by show 1 ≤ 1000; decide)), _, _, _, rfl, .inr ⟨nl, ?_, ?_⟩, fun q x e => ?_⟩
          · rw [upd_same]
            have e0 : putK [((Sum.inr o : Key), V.ref l)] (Sum.inr o : Key) (V.ref nl) = [((Sum.inr o : Key), V.ref nl)] := by
              have := tab_old (f := fun _ => V.ref l) (x := o) (v := V.ref nl) (ks := [o]) (by simp)
              simpa [tab] using this
            rw [e0]
          · rw [upd_ne (by intro e; rw [e, upd_same] at hp3; cases hp3), upd_same, take_snoc hs, List.map_append, List.map_append]; rfl
          · rw [upd_ne (ne_of_none e hpa)]; exact t3 _ _ (sm2 _ _ e)
      · rintro σ H2 ⟨v6, v7, v8, rfl, hp, sm2⟩
        rw [List.length_map] at hp
        rcases hp with ⟨h0, _⟩ | ⟨l, hp, hl⟩
        · exact absurd (List.eq_nil_of_length_eq_zero h0) hko.1
        rw [List.take_length] at hl
        have gfo2 := sm2 _ _ gfo
        refine ⟨_, rfl, .inl ⟨rfl, _, SqL.of gfo2⟩, pa, _, hp, True.intro, fun od => ⟨_, rfl, pa, od, _, rfl, upd_same, fun Dn hD => ?_⟩⟩
        have fD := lock_free hD
        have hlL : (upd H2 pa (.frz od (.dK [((Sum.inr o : Key), V.ref l)]))) l = some (.lst ((kk.map fun s => M.d s a).map V.str)) := by
          rw [upd_ne (ne_of hl hp (by intro z; cases z))]; exact hl
        refine lc_it walk_values (fun j H3 => ∃ us : List Addr, H3 Dn = some (.lst (us.map V.ref)) ∧ Paired (HK1 H3) ([imL M kk a].take j) us ∧ Same (upd H2 pa (.frz od (.dK [((Sum.inr o : Key), V.ref l)]))) H3) ⟨[], upd_same, .nil, same_upd hD⟩ (fun _ _ _ ⟨_, _, _, s⟩ => s _ _ upd_same) ?_ ?_
        · rintro j x H3 H4 hj ⟨us2, gD, pu, sm3⟩ ⟨rfl, ky, hky⟩
          have hj0 : j = 0 := by have : j < 1 := hj; omega
          subst hj0
          have e := Option.some.inj (show some ((Sum.inr o : Key), V.ref l) = some (ky, x) from hky)
          obtain ⟨rfl, rfl⟩ := Prod.mk.inj e
          cases pu
          refine ⟨rfl, _, rfl, l, _, rfl, SqL.of (sm3 _ _ hlL), by rw [List.length_map]; have := hko.2.1; omega, fun ys lp up hmem hlp => ⟨lp, _, rfl, .inl ⟨SqL.of upd_same, fun la hla => ?_⟩⟩⟩
          have ey : ys = imL M kk a := canon_of sltb_ord up hmem
          have t1 := same_upd (o := .lst (ys.map V.str)) hlp
          have t2 := same_upd2 (o := .tup (ys.map V.str)) t1 (Same.free t1 hla)
          have hla2 : HK1 (upd (upd H4 lp (.lst (ys.map V.str))) la (.tup (ys.map V.str))) ys la := upd_same
          have gD2 := t2 _ _ gD
          refine ⟨_, gD2, small1000 (by show 0 ≤ 1000; decide), [la], by rw [upd_same]; rfl, .cons ?_ .nil, fun q x e => ?_⟩
          · rw [← ey]
            exact hla2.mono fun q xs e => by rw [upd_ne (ne_of e gD2 (by intro z; cases z))]; exact e
          · rw [upd_ne (ne_of_none e hD)]; exact t2 _ _ (sm3 _ _ e)
        · rintro H3 ⟨us2, gD, pu, sm3⟩
          have s4 := same_unlock hp sm3
          have hp3 := sm3 _ _ upd_same
          have gD4 : (upd H3 pa (.dK [((Sum.inr o : Key), V.ref l)])) Dn = some (.lst (us2.map V.ref)) := by rw [upd_ne fD.1]; exact gD
          have pu4 : Paired (HK1 (upd H3 pa (.dK [((Sum.inr o : Key), V.ref l)]))) [imL M kk a] us2 := Paired.mapP pu fun y q e => by
            show upd H3 pa _ q = _
            rw [upd_ne (ne_of (show H3 q = some _ from e) hp3 (by intro z; cases z))]; exact e
          generalize upd H3 pa (.dK [((Sum.inr o : Key), V.ref l)]) = H4 at s4 gD4 pu4
          refine ⟨hp3, fo, Dn, _, _, rfl, rfl, s4 _ _ gfo2, gD4, ?_, ?_⟩
          · rw [List.length_map, List.length_map, ← Paired.length pus, ← Paired.length pu4, List.length_map, List.length_take]
            have := hls.one
            exact sz_le (by show min i ls.length + 1 ≤ 1000; omega)
          · have s14 : Same H1 H4 := Same.tr sm2 s4
            have key : ∀ q y, HK1 H4 y q → HK1 (upd H4 fo (.lst (us.map V.ref ++ us2.map V.ref))) y q := fun q y e => by
              show upd H4 fo _ q = _
              rw [upd_ne (ne_of (show H4 q = some _ from e) (s4 _ _ gfo2) (by intro z; cases z))]; exact e
            refine ⟨_, _, _, _, _, us ++ us2, rfl, by rw [upd_same, List.map_append], ?_, fun q x e => by rw [upd_ne (ne_of_none e hfo)]; exact s14 _ _ (sm1 _ _ e)⟩
            rw [take_snoc hkk, List.map_append]
            cases pu4 with
            | cons r t =>
              cases t
              exact paired_snoc (key _ _ r) (Paired.mapP (hk1_same s14 pus) fun y q e => key q y e)
    · rintro σ H1 ⟨v4, v5, v6, v7, v8, us, rfl, gfo, pus, sm1⟩
      have hcl : cs.length = ls.length := (Paired.length pcs).symm
      rw [List.length_map, hcl, List.take_length] at pus
      refine ⟨_, rfl, fo, rfl, ⟨_, SqL.of gfo⟩, fun Dn hD => ?_⟩
      refine lc_list (K := K) (a := fo) (xs := us.map V.ref) (fun j H5 => ∃ vs : List Addr, H5 Dn = some (.lst (vs.map V.ref)) ∧ Paired (HK1 H5) (((ls.map fun k => imL M k a).take j).filter fun y => decide (1 < y.length)) vs ∧ Same H1 H5) ⟨[], upd_same, .nil, same_upd hD⟩ (fun i H5 _ ⟨_, _, _, s⟩ => SqL.of (s _ _ gfo)) ?_ ?_
      · rintro j x H5 hj ⟨vs, gD, pv, sm5⟩
        obtain ⟨q, hq, rfl⟩ := refs_get hj
        obtain ⟨y, hy, hyq⟩ := paired_get2 pus hq
        have hyq5 := sm5 _ _ (show H1 q = some _ from hyq)
        refine ⟨rfl, _, rfl, .ref q, y.length, rfl, .inr ⟨_, SqT.of hyq5, by rw [List.length_map]⟩, y.length, 1, rfl, rfl, _, rfl, ?_⟩
        rw [take_filter hy]
        have hvl : vs.length ≤ 1 := by
          rw [← Paired.length pv]
          refine Nat.le_trans (List.length_filter_le _ _) ?_
          rw [List.length_take, List.length_map]
          have := hls.one
          omega
        by_cases h1 : 1 < y.length
        · refine iteDT (by omega) ⟨_, rfl, _, gD, small1000 (by rw [List.length_map]; omega), vs ++ [q], by rw [upd_same, List.map_append]; rfl, ?_, fun z x e => by rw [upd_ne (ne_of_none e hD)]; exact sm5 _ _ e⟩
          rw [if_pos (decide_eq_true h1)]
          have key : ∀ z y, HK1 H5 y z → HK1 (upd H5 Dn (.lst (vs.map V.ref ++ [V.ref q]))) y z := fun z y e => by
            show upd H5 Dn _ z = _
            rw [upd_ne (ne_of (show H5 z = some _ from e) gD (by intro z; cases z))]; exact e
          exact paired_snoc (key _ _ hyq5) (Paired.mapP pv fun y z e => key z y e)
        · refine iteDF (by omega) ⟨vs, gD, ?_, sm5⟩
          rw [if_neg (by rw [decide_eq_true_eq]; exact h1), List.append_nil]
          exact pv
      · rintro H5 ⟨vs, gD, pv, sm5⟩
        have hul : us.length = (ls.map fun k => imL M k a).length := (Paired.length pus).symm
        rw [List.length_map, hul, List.take_length] at pv
        have ef : ((ls.map fun k => imL M k a).filter fun y => decide (1 < y.length)) = lotsF M a ls := by
          have h1 := hls.one
          match ls, h1 with
          | [], _ => rfl
          | [k], _ =>
            show [imL M k a].filter _ = (if 1 < (imL M k a).length then [imL M k a] else [])
            by_cases h : 1 < (imL M k a).length
            · rw [if_pos h]; simp [h]
            · rw [if_neg h]; simp [h]
        rw [ef] at pv
        have hvl : vs.length ≤ 1 := by
          rw [← Paired.length pv, ← ef]
          refine Nat.le_trans (List.length_filter_le _ _) ?_
          rw [List.length_map]; exact hls.one
        refine ⟨Dn, vs, rfl, SqL.of gD, hvl, fun q hq => ?_, fun lp hlp => ⟨lp, _, rfl, .inl ⟨SqL.of upd_same, fun la hla => ?_⟩⟩⟩
        · obtain ⟨i, hi, e⟩ := List.getElem_of_mem hq
          obtain ⟨y, _, hy⟩ := paired_get2 pv (i := i) (x := q) (by rw [List.getElem?_eq_getElem hi, e])
          exact ⟨y, hy⟩
        · have t1 := same_upd (o := .lst (vs.map V.ref)) hlp
          have t2 := same_upd2 (o := .tup (vs.map V.ref)) t1 (Same.free t1 hla)
          exact k la _ ⟨vs, upd_same, hk1_same t2 pv⟩ (Same.tr sm1 (Same.tr sm5 t2))
end
end K45
end
section
set_option maxRecDepth 100000
set_option maxHeartbeats 4000000
/-! the search among lots, all signs alike -/
namespace K45
open PySem PySem.Spec L2
abbrev Node2 := List (List Str) × List Nat
def step2 (M : Mch) (ls : List (List Str)) (i : Nat) : List (List Str) := lotsF M (M.L.getD i zz) ls
abbrev Bfs2 (M : Mch) (all : List Node2) (p i : Nat) : Prop := Bfs M.L.length (step2 M) (fun ls => ls.length = 0) [M.S] all p i
structure Srch2 (M : Mch) (all : List Node2) : Prop where
  ex : ∃ tl : List Node2, all = ([M.S], []) :: tl ∧ (tl.map (·.1)).Nodup ∧ ∀ e ∈ tl, e.1.length ≤ 1 ∧ ∀ k ∈ e.1, Up sltb k ∧ 1 < k.length ∧ ∀ x ∈ k, x ∈ M.S
theorem Srch2.init (M : Mch) : Srch2 M [([M.S], [])] := ⟨[], rfl, List.nodup_nil, fun e he => (by cases he)⟩
theorem Srch2.add {M : Mch} {k : List (List Str)} {all : List Node2} {wd : List Nat} (h : Srch2 M all) (hk : k.length ≤ 1 ∧ ∀ y ∈ k, Up sltb y ∧ 1 < y.length ∧ ∀ x ∈ y, x ∈ M.S) (hn : k ∉ all.tail.map (·.1)) : Srch2 M (all ++ [(k, wd)]) := by
  obtain ⟨tl, rfl, nd, hm⟩ := h
  refine ⟨tl ++ [(k, wd)], rfl, ?_, fun e he => ?_⟩
  · rw [List.map_append, List.nodup_append]
    refine ⟨nd, by simp, fun a ha b hb e => ?_⟩
    have hb' : b = k := by simpa using hb
    exact hn (by rw [← hb', ← e]; exact ha)
  · rcases List.mem_append.mp he with he | he
    · exact hm e he
    · have : e = (k, wd) := by simpa using he
      rw [this]; exact hk
theorem Srch2.len {M : Mch} {all : List Node2} (h : Srch2 M all) (ok : M.Ok) : all.length ≤ 258 := by
  obtain ⟨tl, rfl, nd, hm⟩ := h
  have hc : Up sltb (canon sltb M.S) := up_canon sltb_ord M.S
  have h1 := nodup_len nd (r := [] :: (subs (canon sltb M.S)).map fun k => [k]) fun k hk => by
    obtain ⟨e, he, rfl⟩ := List.mem_map.mp hk
    obtain ⟨e1, e2⟩ := hm e he
    match h : e.1, e1 with
    | [], _ => simp
    | [y], _ =>
      rw [h] at e2
      have hy := e2 y (by simp)
      exact List.mem_cons_of_mem _ (List.mem_map.mpr ⟨y, subs_mem sltb_ord hc hy.1 fun x hx => mem_canon.mpr (hy.2.2 x hx), rfl⟩)
  rw [List.length_map, List.length_cons, List.length_map, subs_len] at h1
  have h2 : (canon sltb M.S).length ≤ 8 := Nat.le_trans (nodup_len (Up.nodup sltb_ord hc) (r := M.S) fun x hx => mem_canon.mp hx) ok.sf
  have h3 : 2 ^ (canon sltb M.S).length ≤ 2 ^ 8 := Nat.pow_le_pow_right (by decide) h2
  have h4 : (2 : Nat) ^ 8 = 256 := by decide
  rw [List.length_cons]
  omega
theorem Srch2.lots {M : Mch} {all : List Node2} (h : Srch2 M all) (ok : M.Ok) : ∀ e ∈ all, Lots M e.1 := by
  obtain ⟨tl, rfl, nd, hm⟩ := h
  intro e he
  rcases List.mem_cons.mp he with z | he
  · rw [z]
    refine ⟨Nat.le_refl _, fun k hk => ?_⟩
    rw [List.mem_singleton.mp hk]
    exact ⟨ok.s0, ok.sf, fun _ h => h⟩
  · obtain ⟨h1, h2⟩ := hm e he
    refine ⟨h1, fun k hk => ?_⟩
    obtain ⟨u, l, s⟩ := h2 k hk
    exact ⟨fun z => by rw [z] at l; simp at l, Nat.le_trans (nodup_len (Up.nodup sltb_ord u) s) ok.sf, s⟩
theorem lotsF_ok {M : Mch} (ok : M.Ok) {a : Str} (ha : a ∈ M.L) {ls : List (List Str)} (h : Lots M ls) : (lotsF M a ls).length ≤ 1 ∧ ∀ y ∈ lotsF M a ls, Up sltb y ∧ 1 < y.length ∧ ∀ x ∈ y, x ∈ M.S := by
  cases ls with
  | nil => exact ⟨Nat.zero_le _, fun y hy => (by cases hy)⟩
  | cons k r =>
    show (if 1 < (imL M k a).length then [imL M k a] else []).length ≤ 1 ∧ ∀ y ∈ (if 1 < (imL M k a).length then [imL M k a] else []), _
    split
    · rename_i h1
      refine ⟨Nat.le_refl _, fun y hy => ?_⟩
      rw [List.mem_singleton.mp hy]
      refine ⟨up_canon sltb_ord _, h1, fun x hx => ?_⟩
      obtain ⟨s, hs, e⟩ := List.mem_map.mp (mem_canon.mp hx)
      rw [← e]
      exact ok.st s ((h.ok k (by simp)).2.2 s hs) a ha
    · exact ⟨Nat.zero_le _, fun y hy => (by cases hy)⟩
theorem im_one {M : Mch} {k : List Str} {i : Nat} (h : k.length ≤ 1) : (stepM M k i).length ≤ 1 := by
  unfold stepM kstep
  have := nodup_len (Up.nodup sltb_ord (up_canon sltb_ord (k.map fun s => M.d s (M.L.getD i zz)))) (r := k.map fun s => M.d s (M.L.getD i zz)) fun x hx => mem_canon.mp hx
  rw [List.length_map] at this
  omega
theorem fold2 {M : Mch} (h2 : 2 ≤ M.S.length) : ∀ (n : Nat) (x : List Nat), x.length = n → x.foldl (step2 M) [M.S] = if (x.foldl (stepM M) M.S).length ≤ 1 then [] else [x.foldl (stepM M) M.S] := by
  intro n
  induction n with
  | zero =>
    intro x hx
    have := List.length_eq_zero_iff.mp hx
    subst this
    show [M.S] = if M.S.length ≤ 1 then [] else [M.S]
    rw [if_neg (by omega)]
  | succ n ih =>
    intro x hx
    rcases snoc_or x with rfl | ⟨u, i, rfl⟩
    · simp at hx
    · have hu : u.length = n := by simpa using hx
      rw [List.foldl_append, List.foldl_append, ih u hu]
      show step2 M _ i = if (stepM M (u.foldl (stepM M) M.S) i).length ≤ 1 then [] else [stepM M (u.foldl (stepM M) M.S) i]
      by_cases h : (u.foldl (stepM M) M.S).length ≤ 1
      · rw [if_pos h, if_pos (im_one h)]; rfl
      · rw [if_neg h]
        show (if 1 < (stepM M (u.foldl (stepM M) M.S) i).length then [stepM M (u.foldl (stepM M) M.S) i] else []) = _
        by_cases h3 : (stepM M (u.foldl (stepM M) M.S) i).length ≤ 1
        · rw [if_pos h3, if_neg (by omega)]
        · rw [if_neg h3, if_pos (by omega)]
theorem goal2 {M : Mch} (ok : M.Ok) (h2 : 2 ≤ M.S.length) (x : List Nat) : (x.foldl (step2 M) [M.S]).length = 0 ↔ Res M.S M.d (lets M.L zz x) := by
  rw [fold2 h2 x.length x rfl]
  have g := kgoal (z := zz) (L := M.L) (d := M.d) sltb_ord ok.s0 (fun y => (Iff.rfl : y ∈ M.S ↔ y ∈ M.S)) ok.sn x
  have n := kne (lt := sltb) (L := M.L) (z := zz) (d := M.d) ok.s0 x
  have n1 : 0 < (x.foldl (stepM M) M.S).length := List.length_pos_iff.mpr n
  rw [← g]
  show _ ↔ (x.foldl (stepM M) M.S).length = 1
  split
  · rename_i h
    exact ⟨fun _ => by omega, fun _ => rfl⟩
  · rename_i h
    exact ⟨fun e => by simp at e, fun e => absurd e (by omega)⟩
section
variable {M : Mch} {all : List Node2} {p i : Nat}
theorem first_of2 (ok : M.Ok) (h2 : 2 ≤ M.S.length) (B : Bfs2 M all p 0) {f : Node2} (hf : all[p]? = some f) (hg : f.1.length = 0) : Fst M f.2 := (B.found hf hg).congr fun x _ => goal2 ok h2 x
theorem none_of2 (ok : M.Ok) (h2 : 2 ≤ M.S.length) (B : Bfs2 M all p 0) (hp : all.length ≤ p) : NoRes M := fun x hx r => B.none hp x hx ((goal2 ok h2 x).mpr r)
theorem word_len2 (B : Bfs2 M all p i) {j : Nat} {e : Node2} (h : all[j]? = some e) : e.2.length ≤ j := B.len j j e (Nat.le_refl _) h
theorem step2_of {ls : List (List Str)} {a : Str} (h : M.L[i]? = some a) : lotsF M a ls = step2 M ls i := by
  unfold step2
  have e : M.L.getD i zz = a := by rw [List.getD_eq_getElem?_getD, h]; rfl
  rw [e]
end
end K45
end
section
set_option maxRecDepth 100000
set_option maxHeartbeats 4000000
namespace K45
open PySem PySem.Spec L2
structure NodeAt2 (M : Mch) (H0 H : Hp) (wl : Addr) (t : Addr) (e : Node2) : Prop where
  ex : ∃ sa ra : Addr, H t = some (.tup [.ref sa, .ref ra]) ∧ HK2 H e.1 sa ∧ H ra = some (.lst ((lets M.L zz e.2).map V.str)) ∧ ra ≠ wl ∧ H0 ra = none
theorem NodeAt2.sb {P : Program} {w : World} {wl ma : Addr} {M : Mch} {H0 H H' : Hp} {ts : List Addr} {xs : List (NK × Addr)} {t : Addr} {e : Node2} (S : Sea P w wl ma H ts xs) (n : NodeAt2 M H0 H wl t e) (s : SB wl ma H H') : NodeAt2 M H0 H' wl t e := by
  obtain ⟨sa, ra, h1, h2, h3, h4, h5⟩ := n.ex
  have k := sb_tup S s
  exact ⟨sa, ra, k _ _ h1, h2.mono k, s _ _ h3 h4 (ne_of h3 S.mt (by intro z; cases z)), h4, h5⟩
section
variable {P : Program} {w : World} {K : PySem.W.Frag} {mg : Str → Option Value} {base : Heap} {C : Addr}
def spNow (C : Addr) : Sp := fun vs H Q _ => ∃ (b : Addr) (M : Mch), vs = [.ref b] ∧ BoxAt C H b M ∧ M.Ok ∧ 2 ≤ M.S.length ∧ (∃ o, ∀ s ∈ M.S, ∀ a ∈ M.L, M.g s a = o) ∧
  (∀ (x : List Nat) (r : Addr) (H' : Hp), Fst M x → H r = none → H' r = some (.lst ((lets M.L zz x).map V.str)) → Same H H' → Q (.ref r) H') ∧ (NoRes M → ∀ H', Same H H' → Q .non H')
/-- what stands at each turn -/
structure Turn2 (P : Program) (w : World) (M : Mch) (wl ma : Addr) (H0 H : Hp) (all : List Node2) (p i : Nat) (ts : List Addr) (xs : List (NK × Addr)) : Prop where
  S : Sea P w wl ma H ts xs
  B : Bfs2 M all p i
  R : Srch2 M all
  K : xs.map (·.1) = all.map fun e => K2 e.1
  sm : Same H0 H
theorem c_now_aux {all : List Node2} {xs : List (NK × Addr)} (hk : xs.map (·.1) = all.map fun e => K2 e.1) (ys : List (List Str)) : K2 ys ∈ xs.map (·.1) ↔ ∃ e ∈ all, e.1 = ys := by
  rw [hk, List.mem_map]
  exact ⟨fun ⟨e, he, q⟩ => ⟨e, he, K2_inj q⟩, fun ⟨e, he, q⟩ => ⟨e, he, by rw [q]⟩⟩
abbrev sc_now_row_st : Stmt := top 18
abbrev sc_now_row_N : List Str := ["box", "begin", "waiting", "met", "lots", "row", "letter", "later"]
theorem sc_now_row : FnScope sc_now_row_N ["box"] (C8.fnScope sc_now_row_st) := C8.fnScope_by (by decide +kernel)
theorem c_now_row (T : Txt K mg) (c : CTxt K C) (m_states : Met1 P w K mg base C 1 "states" (spStates C)) (m_letters : Met1 P w K mg base C 1 "letters" (spLetters C)) (c_later_lots : Call1 P w K mg base 3 "later_lots" (spLater C)) (D : Dfn K mg "now_row" sc_now_row_st ["box"]) : Call1 P w K mg base 4 "now_row" (spNow C) := by
  refine D.cal sc_now_row (fun vs H Q E h => ?_) (fun f cdv A outer s H vs Q E hr h => ?_)
  · obtain ⟨b, M, rfl, _⟩ := h
    rfl
  · obtain ⟨b, M, rfl, Bx, ok, hS2, ⟨og, hog⟩, k1, k2⟩ := h
    have hu := hr.units
    obtain ⟨dx, m, fs, h1, h2, h3, h4⟩ := id Bx
    have lkS := h3 "states" (by decide +kernel) (by decide +kernel)
    have lkL := h3 "letters" (by decide +kernel) (by decide +kernel)
    refine ⟨_, (pss_cons (ps_set (i := 1) sc_now_row.nd rfl (by first | exact Or.inl rfl | exact Or.inr rfl) (pe_ifExp (pt_cmpR op_gt (pe_callB (lenK K) (by rfl) T.n_len (by decide +kernel) (pa_cons (C8.pe_mt0 m_states hr (by decide) (pv 0)) pa_nil)) pe_int (nomark _)) (pe_tup (pa_cons (pe_callTy (tupleK K) (by rfl) T.n_tuple (by decide +kernel) (pa_cons (C8.pe_mt0 m_states hr (by decide) (pv 0)) pa_nil)) pa_nil)) (pe_tup pa_nil)))
    (pss_cons (ps_par (i := 2) (j := 3) (by rfl) sc_now_row.nd rfl rfl (by decide) rfl rfl (pa_cons (pe_lst (pa_cons (pe_tup (pa_cons (pv 1) (pa_cons (pe_lst pa_nil) pa_nil))) pa_nil)) (pa_cons (pe_ndispP P w hu (pps_cons (pv 1) pe_bl pps_nil) (by rfl) (by rfl) (fun z => by cases z) (by decide)) pa_nil)) (by rfl))
    (pss_cons (ps_while PassesOwn.never (pt_cmpR op_gt (pe_callB (lenK K) (by rfl) T.n_len (by decide +kernel) (pa_cons (pv 2) pa_nil)) pe_int (nomark _))
     (pss_cons (ps_asg (bmK K PySem.F.plainAttrs_list PySem.F.slot_list_pop PySem.F.type_list_pop mt_popAt (pv 2) (pa_cons pe_int pa_nil)) (tupG K (n := 2) rfl (pgs_cons (pg_name (i := 4) sc_now_row.nd rfl (by first | exact Or.inl rfl | exact Or.inr rfl)) (pgs_cons (pg_name (i := 5) sc_now_row.nd rfl (by first | exact Or.inl rfl | exact Or.inr rfl)) pgs_nil))))
      (pss_cons (ps_if (pt_cmpR op_eq (pe_callB (lenK K) (by rfl) T.n_len (by decide +kernel) (pa_cons (pv 4) pa_nil)) pe_int (nomark _)) (pss_one (ps_ret (pv 5)))
       pss_nil)
      (pss_one (ps_for PassesOwn.never rfl (listI K (C8.pe_mt0 m_letters hr (by decide) (pv 0))) (pg_name (i := 6) sc_now_row.nd rfl (by first | exact Or.inl rfl | exact Or.inr rfl))
       (pss_cons (ps_set (i := 7) sc_now_row.nd rfl (by first | exact Or.inl rfl | exact Or.inr rfl) (C8.pe_c c_later_lots hr (by decide) (by rfl) (pa_cons (pv 0) (pa_cons (pv 4) (pa_cons (pv 6) pa_nil)))))
        (pss_one (ps_if (pt_cmp (pc_nnotP P w hu (pv 7) (pv 3)) rfl) (pss_cons (ps_nputP P w hu (pv 3) (pv 7) pe_bl rfl)
          (pss_one (ps_expr (bmK K PySem.F.plainAttrs_list PySem.F.slot_list_append PySem.F.type_list_append mt_append (pv 2) (pa_cons (pe_tup (pa_cons (pv 7) (pa_cons (pe_op op_cat (pv 5) (pe_lst (pa_cons (pv 6) pa_nil))) pa_nil))) pa_nil)))))
         pss_nil))))))))
    (pss_one (ps_ret pe_non))))), ?_⟩
    refine ⟨_, rfl, b, dx, fs, rfl, h1, lkS, b, M, rfl, Bx, ok, fun l0 Hz hl0 gl0 smz => ⟨.ref l0, M.S.length, rfl, .inl ⟨_, SqL.of gl0, by rw [List.length_map]⟩, M.S.length, 1, rfl, rfl, _, rfl, iteDT (by omega) ?_⟩⟩
    refine ⟨_, rfl, b, dx, fs, rfl, smz _ _ h1, lkS, b, M, rfl, Bx.same smz, ok, fun ls H1 hls gls sm1 => ⟨ls, _, rfl, .inl ⟨SqL.of gls, fun st hst => ⟨sz_le (by show 1 ≤ 1000; decide), fun bt hbt => ?_⟩⟩⟩⟩
    have sz1 := same_upd2 (o := .tup (M.S.map V.str)) (Same.tr smz sm1) (Same.free (Same.tr smz sm1) hst)
    have sb1 := same_upd2 (o := .tup [.ref st]) sz1 (Same.free sz1 hbt)
    have hst1 : (upd H1 st (.tup (M.S.map V.str))) st = some (.tup (M.S.map V.str)) := upd_same
    have hbt1 : HK2 (upd (upd H1 st (.tup (M.S.map V.str))) bt (.tup [.ref st])) [M.S] bt := ⟨[st], upd_same, .cons (show upd _ bt _ st = _ by rw [upd_ne (ne_of_none hst1 hbt)]; exact hst1) .nil⟩
    generalize upd (upd H1 st (.tup (M.S.map V.str))) bt (.tup [.ref st]) = H2 at sb1 hbt1
    refine ⟨_, rfl, sz_le (by show 0 ≤ 1000; decide), fun rl hrl => ⟨sz_le (by show 2 ≤ 1000; decide), fun tn htn => ⟨sz_le (by show 1 ≤ 1000; decide), fun wl hwl => ?_⟩⟩⟩
    have s3 := same_upd (o := .lst []) hrl
    have s4 := same_upd (o := .tup [.ref bt, .ref rl]) htn
    have s5 := same_upd (o := .lst [.ref tn]) hwl
    have g3 : (upd H2 rl (.lst [])) rl = some (.lst []) := upd_same
    generalize upd H2 rl (.lst []) = H3 at s3 s4 s5 g3 htn hwl
    have hrl0 : H rl = none := Same.free sb1 hrl
    have g4 : (upd H3 tn (.tup [.ref bt, .ref rl])) tn = some (.tup [.ref bt, .ref rl]) := upd_same
    generalize upd H3 tn (.tup [.ref bt, .ref rl]) = H4 at s4 s5 g4 hwl
    have g5 : (upd H4 wl (.lst [.ref tn])) wl = some (.lst [.ref tn]) := upd_same
    have nrl : rl ≠ wl := ne_of_none (s4 _ _ g3) hwl
    have hwl0 : H wl = none := Same.free sb1 (Same.free s3 (Same.free s4 hwl))
    generalize upd H4 wl (.lst [.ref tn]) = H5 at s5 g5
    have s25 : Same H2 H5 := Same.tr s3 (Same.tr s4 s5)
    intro ma hma
    have s6 := same_upd (o := NDO P w ma []) hma
    have hma0 : H ma = none := Same.free sb1 (Same.free s25 hma)
    have nwm : wl ≠ ma := ne_of_none g5 hma
    have k0 : HK2 (upd H5 ma (NDO P w ma [])) [M.S] bt := (hbt1.mono fun b xs e => s25 _ _ e).mono fun b xs e => s6 _ _ e
    refine ⟨_, rfl, bt, K2 [M.S], rfl, rfl, upd_same, .inr ⟨[M.S], rfl, k0⟩, _, _, rfl, ?_⟩
    have s7 : Same H5 (upd (upd H5 ma (NDO P w ma [])) ma (NDO P w ma [(K2 [M.S], bt)])) := fun q o e => by rw [upd_ne (ne_of_none e hma)]; exact s6 _ _ e
    have g7 : (upd (upd H5 ma (NDO P w ma [])) ma (NDO P w ma [(K2 [M.S], bt)])) ma = some (NDO P w ma [(K2 [M.S], bt)]) := upd_same
    generalize upd (upd H5 ma (NDO P w ma [])) ma (NDO P w ma [(K2 [M.S], bt)]) = H7 at s7 g7
    have sm7 : Same H H7 := Same.tr sb1 (Same.tr s25 s7)
    have hk7 : HK2 H7 [M.S] bt := (hbt1.mono fun b xs e => s25 _ _ e).mono fun b xs e => s7 _ _ e
    have T0 : Turn2 P w M wl ma H H7 [([M.S], [])] 0 0 [tn] [(K2 [M.S], bt)] := ⟨⟨s7 _ _ g5, g7, fun x hx => by
      rw [List.mem_singleton.mp hx]; exact .inr ⟨[M.S], rfl, hk7⟩⟩, Bfs.init, Srch2.init M, rfl, sm7⟩
    have N0 : NodeAt2 M H H7 wl tn ([M.S], []) := ⟨bt, rl, s7 _ _ (s5 _ _ g4), hk7, s7 _ _ (s5 _ _ (s4 _ _ g3)), nrl, hrl0⟩
    refine ⟨fun m σ H2 => ∃ (all : List Node2) (p : Nat) (ts : List Addr) (xs : List (NK × Addr)) (v4 v5 v6 v7 : Option V), σ = [some (.ref b), some (.ref bt), some (.ref wl), some (.ref ma), v4, v5, v6, v7] ∧ Turn2 P w M wl ma H H2 all p 0 ts xs ∧ Paired (NodeAt2 M H H2 wl) ts (all.drop p) ∧ p ≤ all.length ∧ m = 300 - p,
      ⟨_, _, _, _, _, none, none, none, none, rfl, T0, .cons N0 .nil, Nat.zero_le _, rfl⟩, ?_⟩
    rintro m2 σ H2 ⟨all, p, ts, xs, v4, v5, v6, v7, rfl, U, pd, hp, rfl⟩
    have hlen := U.R.len ok
    refine ⟨_, rfl, .ref wl, ts.length, rfl, .inl ⟨_, SqL.of U.S.wa, by rw [List.length_map]⟩, ts.length, 0, rfl, rfl, _, rfl, ?_⟩
    have hts := paired_len pd
    rw [List.length_drop] at hts
    by_cases hpl : p < all.length
    · have hd : all.drop p = all[p] :: all.drop (p + 1) := List.drop_eq_getElem_cons hpl
      rw [hd] at pd
      have hf : all[p]? = some all[p] := List.getElem?_eq_getElem hpl
      generalize all[p] = fn at pd hf
      refine iteDT (by omega) ?_
      cases pd with
      | @cons t0 _ ts' _ nd pd' =>
        obtain ⟨sa, ra, n1, n2, n3, n4, n5⟩ := nd.ex
        refine ⟨fun σ' H' => ∃ m', m' < 300 - p ∧ ∃ (all : List Node2) (p : Nat) (ts : List Addr) (xs : List (NK × Addr)) (v4 v5 v6 v7 : Option V), σ' = [some (.ref b), some (.ref bt), some (.ref wl), some (.ref ma), v4, v5, v6, v7] ∧ Turn2 P w M wl ma H H' all p 0 ts xs ∧ Paired (NodeAt2 M H H' wl) ts (all.drop p) ∧ p ≤ all.length ∧ m' = 300 - p, fun σ' H' z => z, ?_⟩
        refine ⟨_, rfl, .inl ⟨rfl, _, SqL.of U.S.wa⟩, wl, _, 0, 0, _, rfl, rfl, U.S.wa, by decide, by decide, by rw [List.length_map, List.length_cons]; simp [seqIndex?], rfl, ?_⟩
        have sb3 : SB wl ma H2 (upd H2 wl (.lst (ts'.map V.ref))) := fun q o e h1 _ => by rw [upd_ne h1]; exact e
        have e3 : ((t0 :: ts').map V.ref).eraseIdx 0 = ts'.map V.ref := by simp
        rw [e3]
        have S3 : Sea P w wl ma (upd H2 wl (.lst (ts'.map V.ref))) ts' xs := ⟨upd_same, by rw [upd_ne nwm.symm]; exact U.S.mt, U.S.en.mono (sb_tup U.S sb3)⟩
        have pd3 : Paired (NodeAt2 M H (upd H2 wl (.lst (ts'.map V.ref))) wl) ts' (all.drop (p + 1)) := paired_imp (fun a x _ e => e.sb U.S sb3) pd'
        have tk3 := sb_tup U.S sb3
        have n13 := tk3 _ _ n1
        have n23 : HK2 (upd H2 wl (.lst (ts'.map V.ref))) fn.1 sa := n2.mono tk3
        have n33 : (upd H2 wl (.lst (ts'.map V.ref))) ra = some (.lst ((lets M.L zz fn.2).map V.str)) := by rw [upd_ne n4]; exact n3
        have sm3 : Same H (upd H2 wl (.lst (ts'.map V.ref))) := fun q o e => by rw [upd_ne (ne_of_none e hwl0)]; exact U.sm _ _ e
        have U3 : Turn2 P w M wl ma H (upd H2 wl (.lst (ts'.map V.ref))) all p 0 ts' xs := ⟨S3, U.B, U.R, U.K, sm3⟩
        generalize upd H2 wl (.lst (ts'.map V.ref)) = H3 at S3 pd3 n13 n23 n33 sm3 U3
        refine ⟨t0, _, rfl, SqT.of n13, rfl, _, _, rfl, _, _, rfl, rfl, ?_⟩
        obtain ⟨cs3, gs3, pc3⟩ := id n23
        refine ⟨_, rfl, .ref sa, fn.1.length, rfl, .inr ⟨_, SqT.of gs3, by rw [List.length_map, Paired.length pc3]⟩, rfl, _, rfl, ?_⟩
        by_cases hg : fn.1.length = 0
        · refine iteDT (by rw [hg]; rfl) ⟨_, rfl, ?_⟩
          exact k1 fn.2 ra H3 (first_of2 ok hS2 U.B hf hg) n5 n33 sm3
        refine iteDF (fun e => hg (by injection e with e; omega)) ?_
        refine ⟨_, rfl, b, dx, fs, rfl, sm3 _ _ h1, lkL, b, M, rfl, Bx.same sm3, ok, fun ll H4 hll gll sm4 => ⟨ll, rfl, ⟨_, SqL.of gll⟩, ?_⟩⟩
        have nlw : ll ≠ wl := (ne_of_none S3.wa hll).symm
        have U4 : Turn2 P w M wl ma H H4 all p 0 ts' xs := ⟨S3.same sm4, U3.B, U3.R, U3.K, Same.tr sm3 sm4⟩
        have pd4 : Paired (NodeAt2 M H H4 wl) ts' (all.drop (p + 1)) := paired_imp (fun a x _ e => e.sb S3 (sb_of sm4)) pd3
        refine for_list (K := K) (a := ll) (xs := M.L.map V.str) (fun i σ H5 => ∃ (all : List Node2) (ts : List Addr) (xs : List (NK × Addr)) (v6 v7 : Option V), σ = [some (.ref b), some (.ref bt), some (.ref wl), some (.ref ma), some (.ref sa), some (.ref ra), v6, v7] ∧
          Turn2 P w M wl ma H H5 all p i ts xs ∧ Paired (NodeAt2 M H H5 wl) ts (all.drop (p + 1)) ∧ all[p]? = some fn ∧ HK2 H5 fn.1 sa ∧ H5 ra = some (.lst ((lets M.L zz fn.2).map V.str)) ∧ H5 ll = some (.lst (M.L.map V.str)))
          ⟨all, ts', xs, v6, v7, rfl, U4, pd4, hf, n23.mono (fun b xs e => sm4 _ _ e), sm4 _ _ n33, gll⟩ (fun i σ H5 _ ⟨_, _, _, _, _, _, _, _, _, _, _, h⟩ => SqL.of h) ?_ ?_
        · rintro i x σ H5 hi ⟨all, ts, xs, v6, v7, rfl, U, pd, hf, hsa, hra, gl5⟩
          obtain ⟨a, ha, rfl⟩ := str_at hi
          have haL := List.mem_of_getElem? ha
          have hlots := U.R.lots ok fn (List.mem_of_getElem? hf)
          refine ⟨_, rfl, _, rfl, _, rfl, b, sa, M, a, og, fn.1, rfl, Bx.same U.sm, ok, haL, fun s hs => hog s hs a haL, hsa, hlots, fun la H8 hla8 sm8 => ?_⟩
          have ey := step2_of (M := M) (ls := fn.1) ha
          have hys := lotsF_ok ok haL hlots
          generalize lotsF M a fn.1 = ys at ey hys hla8
          have S8 := U.S.same sm8
          have pd8 : Paired (NodeAt2 M H H8 wl) ts (all.drop (p + 1)) := paired_imp (fun a x _ e => e.sb U.S (sb_of sm8)) pd
          have hra8 := sm8 _ _ hra
          have hsa8 : HK2 H8 fn.1 sa := hsa.mono fun b xs e => sm8 _ _ e
          refine ⟨_, rfl, _, rfl, ma, la, xs, K2 ys, rfl, rfl, S8.mt, S8.en, .inr ⟨ys, rfl, hla8⟩, _, rfl, ?_⟩
          have hi2 : i < M.L.length := (List.getElem?_eq_some_iff.mp ha).1
          by_cases hin : K2 ys ∈ xs.map (·.1)
          · refine iteNS hin ?_
            obtain ⟨e, he, h2⟩ := (c_now_aux U.K ys).mp hin
            exact ⟨all, ts, xs, _, _, rfl, ⟨S8, U.B.skip hf hi2 ⟨e, he, by rw [h2, ey]⟩, U.R, U.K, Same.tr U.sm sm8⟩, pd8, hf, hsa8, hra8, sm8 _ _ gl5⟩
          · refine iteNT hin ?_
            have hxl : xs.length = all.length := by
              have := congrArg List.length U.K
              rw [List.length_map, List.length_map] at this; exact this
            have hal := U.R.len ok
            refine ⟨_, rfl, _, rfl, ma, la, xs, K2 ys, rfl, rfl, rfl, S8.mt, S8.en, .inr ⟨ys, rfl, hla8⟩, hin, by omega, ?_⟩
            have hma9 : (upd H8 ma (NDO P w ma (xs ++ [(K2 ys, la)]))) ma = some (NDO P w ma (xs ++ [(K2 ys, la)])) := upd_same
            have sb9 : SB wl ma H8 (upd H8 ma (NDO P w ma (xs ++ [(K2 ys, la)]))) := fun q o e _ h2 => by rw [upd_ne h2]; exact e
            have wa9 : (upd H8 ma (NDO P w ma (xs ++ [(K2 ys, la)]))) wl = some (.lst (ts.map V.ref)) := by rw [upd_ne nwm]; exact S8.wa
            have nrm : ra ≠ ma := ne_of hra8 S8.mt (by intro z; cases z)
            have hra9 : (upd H8 ma (NDO P w ma (xs ++ [(K2 ys, la)]))) ra = some (.lst ((lets M.L zz fn.2).map V.str)) := by rw [upd_ne nrm]; exact hra8
            have hla9 := hla8.mono (sb_tup S8 sb9)
            generalize upd H8 ma (NDO P w ma (xs ++ [(K2 ys, la)])) = H9 at hma9 sb9 wa9 hra9 hla9
            refine ⟨_, rfl, .inl ⟨rfl, _, SqL.of wa9⟩, _, rfl, _, rfl, _, rfl, sz_le (by show 1 ≤ 1000; decide), fun al1 hal1 => ?_⟩
            have s10 := same_upd (o := .lst [.str a]) hal1
            have hfl := word_len2 U.B hf
            refine ⟨ra, al1, _, _, rfl, rfl, s10 _ _ hra9, upd_same, by rw [List.length_map, lets_len]; exact sz_le (by show fn.2.length + 1 ≤ 1000; omega), fun al hal => ⟨sz_le (by show 2 ≤ 1000; decide), fun tn htn => ?_⟩⟩
            have s11 := same_upd2 (o := .lst ((lets M.L zz fn.2).map V.str ++ [V.str a])) s10 (Same.free s10 hal)
            have hal11 : (upd (upd H9 al1 (.lst [.str a])) al (.lst ((lets M.L zz fn.2).map V.str ++ [V.str a]))) al = some (.lst ((lets M.L zz (fn.2 ++ [i])).map V.str)) := by
              rw [upd_same, lets_add M.L fn.2 ha, List.map_append]; rfl
            have hal9 : H9 al = none := Same.free s10 hal
            generalize upd (upd H9 al1 (.lst [.str a])) al (.lst ((lets M.L zz fn.2).map V.str ++ [V.str a])) = H11 at s11 hal11 htn
            have s12 := same_upd2 (o := .tup [.ref la, .ref al]) s11 (Same.free s11 htn)
            have hal12 : (upd H11 tn (.tup [.ref la, .ref al])) al = some (.lst ((lets M.L zz (fn.2 ++ [i])).map V.str)) := by rw [upd_ne (ne_of_none hal11 htn)]; exact hal11
            have htn12 : (upd H11 tn (.tup [.ref la, .ref al])) tn = some (.tup [.ref la, .ref al]) := upd_same
            generalize upd H11 tn (.tup [.ref la, .ref al]) = H12 at s12 hal12 htn12
            have wa12 := s12 _ _ wa9
            have hts2 := paired_len pd8
            rw [List.length_drop] at hts2
            refine ⟨wl, _, _, rfl, rfl, wa12, small1000 (by rw [List.length_map]; omega), ?_⟩
            have sb13 : SB wl ma H8 (upd H12 wl (.lst (ts.map V.ref ++ [V.ref tn]))) := fun q o e n1 n2 => by rw [upd_ne n1]; exact s12 _ _ (sb9 q o e n1 n2)
            have tk13 := sb_tup S8 sb13
            have key : ∀ q o, H12 q = some o → q ≠ wl → (upd H12 wl (.lst (ts.map V.ref ++ [V.ref tn]))) q = some o := fun q o e n => by rw [upd_ne n]; exact e
            have nal : al ≠ wl := (ne_of_none wa9 hal9).symm
            have h0al : H al = none := by
              have h8 : ∀ o, H8 al = some o → False := fun o e => by
                have h1 : al ≠ wl := nal
                have h2 : al ≠ ma := (ne_of_none hma9 hal9).symm
                rw [sb9 al o e h1 h2] at hal9; cases hal9
              cases e : H al with
              | none => rfl
              | some o => exact (h8 o (Same.tr U.sm sm8 _ _ e)).elim
            have hpl2 : p + 1 ≤ all.length := (List.getElem?_eq_some_iff.mp hf).1
            refine ⟨all ++ [(ys, fn.2 ++ [i])], ts ++ [tn], xs ++ [(K2 ys, la)], _, _, rfl, ⟨⟨?_, ?_, ?_⟩, ?_, ?_, ?_, ?_⟩, ?_, get_app hf, hsa8.mono tk13, key _ _ (s12 _ _ hra9) n4, ?_⟩
            · rw [upd_same, List.map_append]; rfl
            · exact key _ _ (s12 _ _ hma9) nwm.symm
            · intro x hx
              rcases List.mem_append.mp hx with hx | hx
              · exact (S8.en x hx).mono tk13
              · rw [List.mem_singleton.mp hx]
                exact .inr ⟨ys, rfl, hla8.mono tk13⟩
            · rw [ey]; exact U.B.add hf hi2
            · refine U.R.add hys fun hm => hin ?_
              · obtain ⟨e, he, h2⟩ := List.mem_map.mp hm
                exact (c_now_aux U.K ys).mpr ⟨e, List.mem_of_mem_tail he, h2⟩
            · rw [List.map_append, List.map_append, U.K]; rfl
            · exact fun q o e => key _ _ (s12 _ _ (sb9 _ _ (Same.tr U.sm sm8 q o e) (ne_of_none e hwl0) (ne_of_none e hma0))) (ne_of_none e hwl0)
            · rw [List.drop_append_of_le_length hpl2]
              refine paired_snoc ⟨la, al, key _ _ htn12 (ne_of htn12 wa12 (by intro z; cases z)), hla8.mono tk13, key _ _ hal12 nal, nal, h0al⟩ ?_
              exact paired_imp (fun q x _ e => e.sb S8 sb13) pd8
            · have g8 := sm8 _ _ gl5
              exact sb13 _ _ g8 nlw (ne_of g8 S8.mt (by intro z; cases z))
        · rintro σ H5 ⟨all, ts, xs, v6, v7, rfl, U, pd, hf, hsa, hra, gl5⟩
          rw [List.length_map] at U
          have hpl2 : p < all.length := (List.getElem?_eq_some_iff.mp hf).1
          have := U.R.len ok
          exact ⟨300 - (p + 1), by omega, all, p + 1, ts, xs, _, _, _, _, rfl, ⟨U.S, U.B.fin hf hg, U.R, U.K, U.sm⟩, pd, by omega, rfl⟩
    · refine iteDF (by omega) ?_
      have hr1 : NoRes M := none_of2 ok hS2 U.B (by omega)
      exact k2 hr1 _ U.sm
end
end K45
end
section
set_option maxRecDepth 100000
set_option maxHeartbeats 4000000
namespace K45
open PySem PySem.Spec L2
section
variable {P : Program} {w : World} {K : PySem.W.Frag} {mg : Str → Option Value} {base : Heap} {C : Addr}
def spUnseen (C : Addr) : Sp := fun vs H Q _ => ∃ (b c : Addr) (M : Mch) (p : Pr), vs = [.ref b, .ref c] ∧ BoxAt C H b M ∧ M.Ok ∧ (∃ o, ∀ s ∈ M.S, ∀ a ∈ M.L, M.g s a = o) ∧ PrAt H c p ∧ p.1 ∈ M.S ∧ p.2 ∈ M.S ∧ ∀ H', Same H H' → Q (.bl true) H'
abbrev sc_is_unseen_st : Stmt := top 16
abbrev sc_is_unseen_N : List Str := ["box", "pair", "letter"]
theorem sc_is_unseen : FnScope sc_is_unseen_N ["box", "pair"] (C8.fnScope sc_is_unseen_st) := C8.fnScope_by (by decide +kernel)
theorem c_is_unseen (T : Txt K mg) (c : CTxt K C) (m_letters : Met1 P w K mg base C 1 "letters" (spLetters C)) (c_signs_of_pair : Call1 P w K mg base 3 "signs_of_pair" (spLed C Mch.g)) (D : Dfn K mg "is_unseen" sc_is_unseen_st ["box", "pair"]) : Call1 P w K mg base 4 "is_unseen" (spUnseen C) := by
  refine D.cal sc_is_unseen (fun vs H Q E h => ?_) (fun f cdv A outer s H vs Q E hr h => ?_)
  · obtain ⟨b, q, M, p, rfl, _⟩ := h
    rfl
  · obtain ⟨b, q, M, p, rfl, Bx, ok, ⟨o, ho⟩, hq, p1, p2, k⟩ := h
    obtain ⟨dx, m, fs, h1, h2, h3, h4⟩ := id Bx
    refine ⟨_, (pss_one (ps_ret (pe_callB (allK K rfl) (by rfl) T.n_all (by decide +kernel) (pa_cons (pe_lc (own := [("letter", 2)]) (g := (gName 2)) (tt := tYes) rfl sc_is_unseen.nd (listI K (C8.pe_mt0 m_letters hr (by decide) (pv 0))) (blkOk_by (N := sc_is_unseen_N) (sc := C8.fnScope sc_is_unseen_st) (by decide +kernel)) (fun _ _ _ _ _ => (pg_name (i := 2) sc_is_unseen.nd rfl (by first | exact Or.inl rfl | exact Or.inr rfl))) (fun _ _ _ _ _ => pts_nil) (fun _ _ _ _ _ => (pe_cmpR op_eq (countSet K rfl (by rfl) T.n_len (by rfl) T.n_set (C8.pe_c c_signs_of_pair hr (by decide) (by rfl) (pa_cons (pv 0) (pa_cons (pv 1) (pa_cons (pv 2) pa_nil))))) pe_int (nomark _)))) pa_nil)))), ?_⟩
    refine ⟨_, rfl, b, dx, fs, rfl, h1, h3 _ (by decide +kernel) (by decide +kernel), b, M, rfl, Bx, ok, fun ll H1 hll gll sm1 => ⟨ll, rfl, ⟨_, SqL.of gll⟩, fun Dn hD => ?_⟩⟩
    refine lc_list (K := K) (a := ll) (xs := M.L.map V.str) (fun j H2 => H2 Dn = some (.lst ((List.replicate j true).map V.bl)) ∧ Same H1 H2) ⟨upd_same, same_upd hD⟩ (fun i H2 _ h => SqL.of (h.2 _ _ gll)) ?_ ?_
    · rintro j x H2 hj ⟨gD, sm2⟩
      obtain ⟨a, ha, rfl⟩ := str_at hj
      have haL := List.mem_of_getElem? ha
      have s12 := Same.tr sm1 sm2
      refine ⟨rfl, _, rfl, _, rfl, _, rfl, b, q, M, p, a, rfl, Bx.same s12, s12 _ _ hq, p1, p2, haL, fun t H3 ht sm3 => ⟨t, [o, o], rfl, .inr (SqT.of ?_), by show 2 < 60; decide, fun n hn => ?_⟩⟩
      · have := ht
        unfold PrAt at this
        rw [ho _ p1 a haL, ho _ p2 a haL] at this
        exact this
      · obtain ⟨zs, nd, hz, hm⟩ := hn
        have en : n = 1 := by
          have h1 := nodup_len nd (r := [o]) fun x hx => by simpa using (hm x).mp hx
          have h2 : 0 < zs.length := List.length_pos_of_mem ((hm o).mpr (by simp))
          simp at h1
          omega
        subst en
        refine ⟨rfl, _, sm3 _ _ gD, small1000 ?_, ?_, fun z o e => by rw [upd_ne (ne_of_none e hD)]; exact sm3 _ _ (sm2 _ _ e)⟩
        · rw [List.length_map, List.length_replicate]
          have := (List.getElem?_eq_some_iff.mp ha).1
          have := ok.lf
          omega
        · rw [upd_same, List.replicate_succ', List.map_append]; rfl
    · rintro H2 ⟨gD, sm2⟩
      exact ⟨Dn, _, rfl, SqL.of gD, by rw [all_trues]; exact k _ (Same.tr sm1 sm2)⟩
def spBlind (C : Addr) : Sp := fun vs H Q _ => ∃ (b : Addr) (M : Mch), vs = [.ref b] ∧ BoxAt C H b M ∧ M.Ok ∧ (∃ o, ∀ s ∈ M.S, ∀ a ∈ M.L, M.g s a = o) ∧ keepF M.S M.L M.d = [] ∧ ∀ H', Same H H' → Q .non H'
abbrev sc_blind_list_st : Stmt := top 19
abbrev sc_blind_list_N : List Str := ["box", "left", "pair"]
theorem sc_blind_list : FnScope sc_blind_list_N ["box"] (C8.fnScope sc_blind_list_st) := C8.fnScope_by (by decide +kernel)
theorem c_blind_list (T : Txt K mg) (c : CTxt K C) (c_unlike_pairs : Call1 P w K mg base 2 "unlike_pairs" (spUnlike C)) (c_lasting : Call1 P w K mg base 4 "lasting" (spLasting C)) (c_is_unseen : Call1 P w K mg base 4 "is_unseen" (spUnseen C)) (D : Dfn K mg "blind_list" sc_blind_list_st ["box"]) : Call1 P w K mg base 5 "blind_list" (spBlind C) := by
  refine D.cal sc_blind_list (fun vs H Q E h => ?_) (fun f cdv A outer s H vs Q E hr h => ?_)
  · obtain ⟨b, M, rfl, _⟩ := h
    rfl
  · obtain ⟨b, M, rfl, B, ok, ho, he, k⟩ := h
    refine ⟨_, (pss_cons (ps_set (i := 1) sc_blind_list.nd rfl (by first | exact Or.inl rfl | exact Or.inr rfl) (C8.pe_c c_lasting hr (by decide) (by rfl) (pa_cons (pv 0) (pa_cons (pe_lc (own := [("pair", 2)]) (g := (gName 2)) rfl sc_blind_list.nd (listI K (C8.pe_c c_unlike_pairs hr (by decide) (by rfl) (pa_cons (pv 0) pa_nil))) (blkOk_by (N := sc_blind_list_N) (sc := C8.fnScope sc_blind_list_st) (by decide +kernel)) (fun _ _ _ _ _ => (pg_name (i := 2) sc_blind_list.nd rfl (by first | exact Or.inl rfl | exact Or.inr rfl))) (fun _ _ _ _ _ => (pts_one (pt_val (C8.pe_c c_is_unseen hr (by decide) (by rfl) (pa_cons (pv 0) (pa_cons (pv 2) pa_nil)))))) (fun _ _ _ _ _ => (pv 2))) pa_nil))))
    (pss_one (ps_ret (pe_ifExp (pt_cmpR op_gt (pe_callB (lenK K) (by rfl) T.n_len (by decide +kernel) (pa_cons (pv 1) pa_nil)) pe_int (nomark _)) (pv 1) pe_non)))), ?_⟩
    refine ⟨_, rfl, _, rfl, b, M, rfl, B, ok, fun q H1 hq pq sm1 => ?_⟩
    obtain ⟨cs, gq, pd⟩ := id pq
    refine ⟨q, rfl, ⟨_, SqL.of gq⟩, fun Dn hD => ?_⟩
    refine lc_list (K := K) (a := q) (xs := cs.map V.ref) (fun j H2 => H2 Dn = some (.lst ((cs.take j).map V.ref)) ∧ Same H1 H2) ⟨upd_same, same_upd hD⟩ (fun i H2 _ h => SqL.of (h.2 _ _ gq)) ?_ ?_
    · rintro j x H2 hj ⟨gD, sm2⟩
      obtain ⟨ca, hca, rfl⟩ := refs_get hj
      obtain ⟨p, hp, hpr⟩ := paired_get pd hca
      have hss := pairs_ss ok p (List.mem_of_getElem? hp)
      have s12 := Same.tr sm1 sm2
      have hcl := paired_len pd
      refine ⟨rfl, _, rfl, _, rfl, b, ca, M, p, rfl, B.same s12, ok, ho, sm2 _ _ hpr, hss.1, hss.2, fun H3 sm3 => ⟨_, rfl, _, rfl, _, sm3 _ _ gD, small1000 ?_, ?_, fun z o e => by rw [upd_ne (ne_of_none e hD)]; exact sm3 _ _ (sm2 _ _ e)⟩⟩
      · rw [List.length_map, List.length_take]
        have := pairs_64 ok
        omega
      · rw [upd_same, take_snoc hca, List.map_append]; rfl
    · rintro H2 ⟨gD, sm2⟩
      rw [List.length_map, List.take_length] at gD
      have pq2 : PrsAt H2 Dn (pairsOf M.S) := ⟨cs, gD, paired_imp (fun a x _ e => sm2 _ _ e) pd⟩
      refine ⟨b, Dn, M, pairsOf M.S, rfl, B.same (Same.tr sm1 sm2), ok, pq2, pairs_ss ok, pairs_64 ok, fun l H3 hl pl sm3 => ?_⟩
      have pl' : PrsAt H3 l (keepF M.S M.L M.d) := pl
      rw [he] at pl'
      obtain ⟨cs2, g2, pd2⟩ := pl'
      cases pd2
      refine ⟨_, rfl, .ref l, 0, rfl, .inl ⟨_, SqL.of g2, rfl⟩, 0, 0, rfl, rfl, _, rfl, iteDF (by decide) ?_⟩
      exact k _ (Same.tr sm1 (Same.tr sm2 sm3))
def spStatePair (C : Addr) : Sp := fun vs H Q _ => ∃ (b c : Addr) (M : Mch) (x y : Str), vs = [.ref b, .ref c] ∧ BoxAt C H b M ∧ Cell H c (.str x) (.str y) ∧ x ∈ M.S ∧ y ∈ M.S ∧ x ≠ y ∧ ∀ H', Same H H' → Q (.bl true) H'
abbrev sc_is_state_pair_st : Stmt := top 14
abbrev sc_is_state_pair_N : List Str := ["box", "thing", "state"]
theorem sc_is_state_pair : FnScope sc_is_state_pair_N ["box", "thing"] (C8.fnScope sc_is_state_pair_st) := C8.fnScope_by (by decide +kernel)
theorem c_is_state_pair (T : Txt K mg) (c : CTxt K C) (c_is_list : Call1 P w K mg base 1 "is_list" spIsList) (m_is_state : Met1 P w K mg base C 1 "is_state" (spIsState C)) (D : Dfn K mg "is_state_pair" sc_is_state_pair_st ["box", "thing"]) : Call1 P w K mg base 2 "is_state_pair" (spStatePair C) := by
  refine D.cal sc_is_state_pair (fun vs H Q E h => ?_) (fun f cdv A outer s H vs Q E hr h => ?_)
  · obtain ⟨b, q, M, x, y, rfl, _⟩ := h
    rfl
  · obtain ⟨b, q, M, x, y, rfl, Bx, hq, hx, hy, hne, k⟩ := h
    obtain ⟨dx, m, fs, h1, h2, h3, h4⟩ := id Bx
    have lk := h3 "is_state" (by decide +kernel) (by decide +kernel)
    refine ⟨_, (pss_cons (ps_if (PW.pt (pw_or (pt_not (pt_val (C8.pe_c c_is_list hr (by decide) (by rfl) (pa_cons (pv 1) pa_nil)))) (pw_or (pt_cmpR op_ne (pe_callB (lenK K) (by rfl) T.n_len (by decide +kernel) (pa_cons (pv 1) pa_nil)) pe_int (nomark _)) (pw_or1 (pt_not (pt_val (pe_callB (allK K rfl) (by rfl) T.n_all (by decide +kernel) (pa_cons (pe_lc (own := [("state", 2)]) (g := (gName 2)) (tt := tYes) rfl sc_is_state_pair.nd (pi_or (listI K (pv 1)) (tupI K (pv 1))) (blkOk_by (N := sc_is_state_pair_N) (sc := C8.fnScope sc_is_state_pair_st) (by decide +kernel)) (fun _ _ _ _ _ => (pg_name (i := 2) sc_is_state_pair.nd rfl (by first | exact Or.inl rfl | exact Or.inr rfl))) (fun _ _ _ _ _ => pts_nil) (fun _ _ _ _ _ => (C8.pe_mt m_is_state hr (by decide) (pv 0) (pa_cons (pv 2) pa_nil)))) pa_nil)))))))) (pss_one (ps_ret pe_bl))
     pss_nil)
    (pss_one (ps_ret (pe_cmpR op_ne (pe_ix (ix_seqK K) (pv 1) pe_int (fun _ _ => rfl)) (pe_ix (ix_seqK K) (pv 1) pe_int (fun _ _ => rfl)) (nomark _))))), ?_⟩
    refine ⟨_, rfl, q, rfl, hq.imp (fun z => ⟨_, z⟩) (fun z => ⟨_, z⟩), fun H1 sm1 => ⟨_, rfl, iteF ?_⟩⟩
    have hq1 := hq.same sm1
    refine ⟨_, rfl, .ref q, 2, rfl, hq1.len, rfl, _, rfl, iteF ?_⟩
    have item : ∀ (j : Nat) (v : V), ([V.str x, V.str y] : List V)[j]? = some v → ∃ z, v = .str z ∧ z ∈ M.S := fun j v h => by
      match j, h with
      | 0, h => exact ⟨x, (Option.some.inj h).symm, hx⟩
      | 1, h => exact ⟨y, (Option.some.inj h).symm, hy⟩
    rcases id hq1 with hz | hz
    · refine .inl ⟨_, rfl, q, rfl, ⟨_, SqL.of hz⟩, fun Dn hD => ?_⟩
      refine lc_list (K := K) (a := q) (xs := [V.str x, V.str y]) (fun j H2 => H2 Dn = some (.lst ((List.replicate j true).map V.bl)) ∧ Same H1 H2) ⟨upd_same, same_upd hD⟩ (fun i H2 _ h => SqL.of (h.2 _ _ hz)) ?_ ?_
      · rintro j v H2 hj ⟨gD, sm2⟩
        obtain ⟨z, rfl, hzS⟩ := item j v hj
        refine ⟨rfl, _, rfl, b, dx, fs, rfl, sm2 _ _ (sm1 _ _ h1), lk, _, rfl, b, M, z, rfl, Bx.same (Same.tr sm1 sm2), hzS, _, gD, small1000 ?_, ?_, fun z o e => by rw [upd_ne (ne_of_none e hD)]; exact sm2 _ _ e⟩
        · rw [List.length_map, List.length_replicate]
          have := (List.getElem?_eq_some_iff.mp hj).1
          have h2 : j < 2 := this
          omega
        · rw [upd_same, List.replicate_succ', List.map_append]; rfl
      · rintro H2 ⟨gD, sm2⟩
        refine ⟨Dn, _, rfl, SqL.of gD, ?_⟩
        rw [all_trues]
        have hq2 := hq1.same sm2
        refine ⟨_, rfl, iteF ⟨_, rfl, hq2.ix0 ⟨_, rfl, hq2.ix1 ⟨rfl, ?_⟩⟩⟩⟩
        rw [decide_eq_false (show ¬ V.str x = V.str y from fun e => hne (by injection e))]
        exact k _ (Same.tr sm1 sm2)
    · refine .inr ⟨_, rfl, q, rfl, ⟨_, SqT.of hz⟩, fun Dn hD => ?_⟩
      refine lc_tup (K := K) (a := q) (xs := [V.str x, V.str y]) (fun j H2 => H2 Dn = some (.lst ((List.replicate j true).map V.bl)) ∧ Same H1 H2) ⟨upd_same, same_upd hD⟩ (fun i H2 _ h => SqT.of (h.2 _ _ hz)) ?_ ?_
      · rintro j v H2 hj ⟨gD, sm2⟩
        obtain ⟨z, rfl, hzS⟩ := item j v hj
        refine ⟨rfl, _, rfl, b, dx, fs, rfl, sm2 _ _ (sm1 _ _ h1), lk, _, rfl, b, M, z, rfl, Bx.same (Same.tr sm1 sm2), hzS, _, gD, small1000 ?_, ?_, fun z o e => by rw [upd_ne (ne_of_none e hD)]; exact sm2 _ _ e⟩
        · rw [List.length_map, List.length_replicate]
          have := (List.getElem?_eq_some_iff.mp hj).1
          have h2 : j < 2 := this
          omega
        · rw [upd_same, List.replicate_succ', List.map_append]; rfl
      · rintro H2 ⟨gD, sm2⟩
        refine ⟨Dn, _, rfl, SqL.of gD, ?_⟩
        rw [all_trues]
        have hq2 := hq1.same sm2
        refine ⟨_, rfl, iteF ⟨_, rfl, hq2.ix0 ⟨_, rfl, hq2.ix1 ⟨rfl, ?_⟩⟩⟩⟩
        rw [decide_eq_false (show ¬ V.str x = V.str y from fun e => hne (by injection e))]
        exact k _ (Same.tr sm1 sm2)

/-- a list of pairs as it is handed in: a list or a tuple of lists or tuples -/
def Thing (H : Hp) (q : Addr) (ps : List Pr) : Prop := ∃ cs : List Addr, (H q = some (.lst (cs.map V.ref)) ∨ H q = some (.tup (cs.map V.ref))) ∧ Paired (fun c (p : Pr) => Cell H c (.str p.1) (.str p.2)) cs ps
def spIsKeep (C : Addr) : Sp := fun vs H Q _ => ∃ (b q : Addr) (M : Mch) (ps : List Pr), vs = [.ref b, .ref q] ∧ BoxAt C H b M ∧ M.Ok ∧ Thing H q ps ∧ ps ≠ [] ∧ ps.length ≤ 64 ∧ (∀ p ∈ ps, p.1 ∈ M.S ∧ p.2 ∈ M.S ∧ p.1 ≠ p.2) ∧ Clo M.L M.d ps ∧ ∀ H', Same H H' → Q (.bl true) H'
abbrev sc_is_keep_st : Stmt := top 15
abbrev sc_is_keep_N : List Str := ["box", "thing", "pairs", "pair", "letter"]
theorem sc_is_keep : FnScope sc_is_keep_N ["box", "thing"] (C8.fnScope sc_is_keep_st) := C8.fnScope_by (by decide +kernel)
theorem c_is_keep (T : Txt K mg) (c : CTxt K C) (c_is_list : Call1 P w K mg base 1 "is_list" spIsList) (c_is_state_pair : Call1 P w K mg base 2 "is_state_pair" (spStatePair C)) (c_is_pair_in : Call1 P w K mg base 1 "is_pair_in" spPairIn) (c_led_pair : Call1 P w K mg base 3 "led_pair" (spLed C Mch.d)) (m_letters : Met1 P w K mg base C 1 "letters" (spLetters C)) (D : Dfn K mg "is_keep" sc_is_keep_st ["box", "thing"]) : Call1 P w K mg base 4 "is_keep" (spIsKeep C) := by
  refine D.cal sc_is_keep (fun vs H Q E h => ?_) (fun f cdv A outer s H vs Q E hr h => ?_)
  · obtain ⟨b, q, M, ps, rfl, _⟩ := h
    rfl
  · obtain ⟨b, q, M, ps, rfl, Bx, ok, ⟨cs, hq, pd⟩, hne, h64, hps, hcl, k⟩ := h
    obtain ⟨dx, m, fs, h1, h2, h3, h4⟩ := id Bx
    have lkL := h3 "letters" (by decide +kernel) (by decide +kernel)
    refine ⟨_, (pss_cons (ps_if (PW.pt (pw_or (pt_not (pt_val (C8.pe_c c_is_list hr (by decide) (by rfl) (pa_cons (pv 1) pa_nil)))) (pw_or (pt_cmpR op_eq (pe_callB (lenK K) (by rfl) T.n_len (by decide +kernel) (pa_cons (pv 1) pa_nil)) pe_int (nomark _)) (pw_or1 (pt_not (pt_val (pe_callB (allK K rfl) (by rfl) T.n_all (by decide +kernel) (pa_cons (pe_lc (own := [("pair", 3)]) (g := (gName 3)) (tt := tYes) rfl sc_is_keep.nd (pi_or (listI K (pv 1)) (tupI K (pv 1))) (blkOk_by (N := sc_is_keep_N) (sc := C8.fnScope sc_is_keep_st) (by decide +kernel)) (fun _ _ _ _ _ => (pg_name (i := 3) sc_is_keep.nd rfl (by first | exact Or.inl rfl | exact Or.inr rfl))) (fun _ _ _ _ _ => pts_nil) (fun _ _ _ _ _ => (C8.pe_c c_is_state_pair hr (by decide) (by rfl) (pa_cons (pv 0) (pa_cons (pv 3) pa_nil))))) pa_nil)))))))) (pss_one (ps_ret pe_bl))
     pss_nil)
    (pss_cons (ps_set (i := 2) sc_is_keep.nd rfl (by first | exact Or.inl rfl | exact Or.inr rfl) (pe_lc (own := [("pair", 3)]) (g := (gName 3)) (tt := tYes) rfl sc_is_keep.nd (pi_or (listI K (pv 1)) (tupI K (pv 1))) (blkOk_by (N := sc_is_keep_N) (sc := C8.fnScope sc_is_keep_st) (by decide +kernel)) (fun _ _ _ _ _ => (pg_name (i := 3) sc_is_keep.nd rfl (by first | exact Or.inl rfl | exact Or.inr rfl))) (fun _ _ _ _ _ => pts_nil) (fun _ _ _ _ _ => (pe_callTy (tupleK K) (by rfl) T.n_tuple (by decide +kernel) (pa_cons (pv 3) pa_nil)))))
    (pss_one (ps_ret (pe_callB (allK K rfl) (by rfl) T.n_all (by decide +kernel) (pa_cons (pe_lc2 (own := [("pair", 3), ("letter", 4)]) (vs1 := [4]) rfl sc_is_keep.nd (listI K (pv 2)) (blkOk_by (N := sc_is_keep_N) (sc := C8.fnScope sc_is_keep_st) (by decide +kernel)) (by decide) (fun _ _ _ _ _ => (pg_name (i := 3) sc_is_keep.nd rfl (by first | exact Or.inl rfl | exact Or.inr rfl))) (fun _ _ _ _ _ => pts_nil) (fun _ _ _ _ _ => (listI K (C8.pe_mt0 m_letters hr (by decide) (pv 0)))) (fun _ _ _ _ _ => (pg_name (i := 4) sc_is_keep.nd rfl (by first | exact Or.inl rfl | exact Or.inr rfl))) (fun _ _ _ _ _ => pts_nil) (fun _ _ _ _ _ => (C8.pe_c c_is_pair_in hr (by decide) (by rfl) (pa_cons (C8.pe_c c_led_pair hr (by decide) (by rfl) (pa_cons (pv 0) (pa_cons (pv 3) (pa_cons (pv 4) pa_nil)))) (pa_cons (pv 2) pa_nil))))) pa_nil)))))), ?_⟩
    refine ⟨_, rfl, q, rfl, hq.imp (fun z => ⟨_, z⟩) (fun z => ⟨_, z⟩), fun H1 sm1 => ⟨_, rfl, iteF ?_⟩⟩
    have hcl1 : cs.length = ps.length := paired_len pd
    have hq1 := hq.imp (sm1 _ _) (sm1 _ _)
    refine ⟨_, rfl, .ref q, ps.length, rfl, hq1.imp (fun z => ⟨_, SqL.of z, by rw [List.length_map, hcl1]⟩) (fun z => ⟨_, SqT.of z, by rw [List.length_map, hcl1]⟩), rfl, _, rfl, ?_⟩
    refine iteDF (fun e => hne (List.eq_nil_of_length_eq_zero (by injection e with e; omega))) ?_
    rcases id hq1 with hz | hz
    · refine .inl ⟨_, rfl, q, rfl, ⟨_, SqL.of hz⟩, fun Dn hD => ?_⟩
      refine lc_list (K := K) (a := q) (xs := cs.map V.ref) (fun j H2 => H2 Dn = some (.lst ((List.replicate j true).map V.bl)) ∧ Same H1 H2) ⟨upd_same, same_upd hD⟩ (fun i H2 _ h => SqL.of (h.2 _ _ hz)) ?_ ?_
      · rintro j x H2 hj ⟨gD, sm2⟩
        obtain ⟨ca, hca, rfl⟩ := refs_get hj
        obtain ⟨p, hp, hpr⟩ := paired_get pd hca
        have hpp := hps p (List.mem_of_getElem? hp)
        have s12 := Same.tr sm1 sm2
        refine ⟨rfl, _, rfl, _, rfl, b, ca, M, p.1, p.2, rfl, Bx.same s12, hpr.same s12, hpp.1, hpp.2.1, hpp.2.2, fun H3 sm3 => ⟨_, sm3 _ _ gD, small1000 ?_, ?_, fun z o e => by rw [upd_ne (ne_of_none e hD)]; exact sm3 _ _ (sm2 _ _ e)⟩⟩
        · rw [List.length_map, List.length_replicate]
          have := (List.getElem?_eq_some_iff.mp hca).1
          omega
        · rw [upd_same, List.replicate_succ', List.map_append]; rfl
      rintro H2 ⟨gD, sm2⟩
      refine ⟨Dn, _, rfl, SqL.of gD, ?_⟩
      rw [all_trues]
      refine ⟨_, rfl, iteF ?_⟩
      have hz2 := sm2 _ _ hz
      have s02 := Same.tr sm1 sm2
      refine .inl ⟨_, rfl, q, rfl, ⟨_, SqL.of hz2⟩, fun Pn hP => ?_⟩
      refine lc_list (K := K) (a := q) (xs := cs.map V.ref) (fun j H3 => ∃ ts : List Addr, H3 Pn = some (.lst (ts.map V.ref)) ∧ Paired (PrAt H3) ts (ps.take j) ∧ Same H2 H3) ⟨[], upd_same, .nil, same_upd hP⟩ (fun i H3 _ ⟨_, _, _, s⟩ => SqL.of (s _ _ hz2)) ?_ ?_
      · rintro j x H3 hj ⟨ts, gP, pt, sm3⟩
        obtain ⟨ca, hca, rfl⟩ := refs_get hj
        obtain ⟨p, hp, hpr⟩ := paired_get pd hca
        have hc3 := hpr.same (Same.tr s02 sm3)
        have fin : ∀ (t : Addr) (HB : Hp), PrAt HB t p → Same H3 HB → ∃ acc : List V, HB Pn = some (.lst acc) ∧ acc.length < sizeLine ∧ ∃ ts : List Addr, (upd HB Pn (.lst (acc ++ [.ref t]))) Pn = some (.lst (ts.map V.ref)) ∧ Paired (PrAt (upd HB Pn (.lst (acc ++ [.ref t])))) ts (ps.take (j + 1)) ∧ Same H2 (upd HB Pn (.lst (acc ++ [.ref t]))) := by
          intro t HB ht smB
          have gP2 := smB _ _ gP
          refine ⟨_, gP2, small1000 ?_, ts ++ [t], by rw [upd_same, List.map_append]; rfl, ?_, fun z o e => by rw [upd_ne (ne_of_none e hP)]; exact smB _ _ (sm3 _ _ e)⟩
          · rw [List.length_map, paired_len pt, List.length_take]; omega
          · rw [take_snoc hp]
            have key : ∀ z p, PrAt HB z p → PrAt (upd HB Pn (.lst (ts.map V.ref ++ [V.ref t]))) z p := fun z p e => by
              show upd HB Pn _ z = _
              rw [upd_ne (ne_of e gP2 (by intro z; cases z))]; exact e
            exact paired_snoc (key _ _ ht) (paired_imp (fun a x _ e => key _ _ (smB _ _ e)) pt)
        refine ⟨rfl, _, rfl, ca, [.str p.1, .str p.2], rfl, ?_⟩
        exact hc3.elim (fun z => .inl ⟨SqL.of z, fun l hl => fin l _ upd_same (same_upd hl)⟩) (fun z => .inr ⟨SqT.of z, fin _ _ z (fun _ _ e => e)⟩)
      rintro H3 ⟨ts, gP, pt, sm3⟩
      rw [List.length_map, hcl1, List.take_length] at pt
      have s03 := Same.tr s02 sm3
      have hPr : PrsAt H3 Pn ps := ⟨ts, gP, pt⟩
      refine ⟨_, rfl, Pn, rfl, ⟨_, SqL.of gP⟩, fun En hE => ?_⟩
      have htl := paired_len pt
      refine lc2_it walk_list (fun i H4 => ∃ n : Nat, H4 En = some (.lst ((List.replicate n true).map V.bl)) ∧ n ≤ i * 8 ∧ Same H3 H4) ⟨0, upd_same, Nat.zero_le _, same_upd hE⟩ (fun i H4 _ ⟨_, _, _, s⟩ => SqL.of (s _ _ gP)) ?_ ?_
      · rintro i x H4 H4' hi ⟨n, gE, hn, sm4⟩ ⟨rfl, hx⟩
        obtain ⟨t, ht, rfl⟩ := refs_get hx
        obtain ⟨p, hp, hpr⟩ := paired_get pt ht
        have hpm := List.mem_of_getElem? hp
        have hpp := hps p hpm
        have s04 := Same.tr s03 sm4
        have hi2 := (List.getElem?_eq_some_iff.mp ht).1
        have gE4 := gE
        refine ⟨rfl, _, rfl, b, dx, fs, rfl, s04 _ _ h1, lkL, b, M, rfl, Bx.same s04, ok, fun ll H5 hll gll sm5 => ⟨ll, rfl, ⟨_, SqL.of gll⟩, ?_⟩⟩
        refine lc2_in walk_list (fun j H6 => ∃ n : Nat, H6 En = some (.lst ((List.replicate n true).map V.bl)) ∧ n ≤ i * 8 + j ∧ H6 ll = some (.lst (M.L.map V.str)) ∧ Same H3 H6) ⟨n, sm5 _ _ gE, hn, gll, Same.tr sm4 sm5⟩ (fun j H6 _ ⟨_, _, _, s, _⟩ => SqL.of s) ?_ ?_
        · rintro j x H6 H6' hj ⟨n, gE, hn, gll6, s45⟩ ⟨rfl, hx⟩
          obtain ⟨a, ha, rfl⟩ := str_at hx
          have haL := List.mem_of_getElem? ha
          have s06 := Same.tr s03 s45
          have n1 := ok.sm _ (ok.st _ hpp.1 a haL)
          have n2 := ok.sm _ (ok.st _ hpp.2.1 a haL)
          have hj2 := (List.getElem?_eq_some_iff.mp ha).1
          have lf := ok.lf
          refine ⟨rfl, _, rfl, _, rfl, _, rfl, b, t, M, p, a, rfl, Bx.same s06, s45 _ _ hpr, hpp.1, hpp.2.1, haL, fun t2 H7 ht2 sm7 => ⟨_, rfl, t2, Pn, (M.d p.1 a, M.d p.2 a), ps, rfl, ht2, hPr.same (Same.tr s45 sm7), n1, n2, fun z hz => ⟨ok.sm _ (hps z hz).1, ok.sm _ (hps z hz).2.1⟩, fun H8 sm8 => ?_⟩⟩
          rw [hcl p hpm a haL]
          have nle : ll ≠ En := fun e => by
            rw [e] at hll
            rw [gE4] at hll; cases hll
          refine ⟨_, sm8 _ _ (sm7 _ _ gE), small1000 ?_, n + 1, ?_, by omega, by rw [upd_ne nle]; exact sm8 _ _ (sm7 _ _ gll6), fun z o e => by rw [upd_ne (ne_of_none e hE)]; exact sm8 _ _ (sm7 _ _ (s45 _ _ e))⟩
          · rw [List.length_map, List.length_replicate]; omega
          · rw [upd_same, List.replicate_succ', List.map_append]; rfl
        · rintro H6 ⟨n, gE, hn, _, s36⟩
          rw [List.length_map] at hn
          have lf := ok.lf
          exact ⟨n, gE, by omega, s36⟩
      · rintro H4 ⟨n, gE, hn, sm4⟩
        exact ⟨En, _, rfl, SqL.of gE, by rw [all_trues]; exact k _ (Same.tr s03 sm4)⟩
    · refine .inr ⟨_, rfl, q, rfl, ⟨_, SqT.of hz⟩, fun Dn hD => ?_⟩
      refine lc_tup (K := K) (a := q) (xs := cs.map V.ref) (fun j H2 => H2 Dn = some (.lst ((List.replicate j true).map V.bl)) ∧ Same H1 H2) ⟨upd_same, same_upd hD⟩ (fun i H2 _ h => SqT.of (h.2 _ _ hz)) ?_ ?_
      · rintro j x H2 hj ⟨gD, sm2⟩
        obtain ⟨ca, hca, rfl⟩ := refs_get hj
        obtain ⟨p, hp, hpr⟩ := paired_get pd hca
        have hpp := hps p (List.mem_of_getElem? hp)
        have s12 := Same.tr sm1 sm2
        refine ⟨rfl, _, rfl, _, rfl, b, ca, M, p.1, p.2, rfl, Bx.same s12, hpr.same s12, hpp.1, hpp.2.1, hpp.2.2, fun H3 sm3 => ⟨_, sm3 _ _ gD, small1000 ?_, ?_, fun z o e => by rw [upd_ne (ne_of_none e hD)]; exact sm3 _ _ (sm2 _ _ e)⟩⟩
        · rw [List.length_map, List.length_replicate]
          have := (List.getElem?_eq_some_iff.mp hca).1
          omega
        · rw [upd_same, List.replicate_succ', List.map_append]; rfl
      rintro H2 ⟨gD, sm2⟩
      refine ⟨Dn, _, rfl, SqL.of gD, ?_⟩
      rw [all_trues]
      refine ⟨_, rfl, iteF ?_⟩
      have hz2 := sm2 _ _ hz
      have s02 := Same.tr sm1 sm2
      refine .inr ⟨_, rfl, q, rfl, ⟨_, SqT.of hz2⟩, fun Pn hP => ?_⟩
      refine lc_tup (K := K) (a := q) (xs := cs.map V.ref) (fun j H3 => ∃ ts : List Addr, H3 Pn = some (.lst (ts.map V.ref)) ∧ Paired (PrAt H3) ts (ps.take j) ∧ Same H2 H3) ⟨[], upd_same, .nil, same_upd hP⟩ (fun i H3 _ ⟨_, _, _, s⟩ => SqT.of (s _ _ hz2)) ?_ ?_
      · rintro j x H3 hj ⟨ts, gP, pt, sm3⟩
        obtain ⟨ca, hca, rfl⟩ := refs_get hj
        obtain ⟨p, hp, hpr⟩ := paired_get pd hca
        have hc3 := hpr.same (Same.tr s02 sm3)
        have fin : ∀ (t : Addr) (HB : Hp), PrAt HB t p → Same H3 HB → ∃ acc : List V, HB Pn = some (.lst acc) ∧ acc.length < sizeLine ∧ ∃ ts : List Addr, (upd HB Pn (.lst (acc ++ [.ref t]))) Pn = some (.lst (ts.map V.ref)) ∧ Paired (PrAt (upd HB Pn (.lst (acc ++ [.ref t])))) ts (ps.take (j + 1)) ∧ Same H2 (upd HB Pn (.lst (acc ++ [.ref t]))) := by
          intro t HB ht smB
          have gP2 := smB _ _ gP
          refine ⟨_, gP2, small1000 ?_, ts ++ [t], by rw [upd_same, List.map_append]; rfl, ?_, fun z o e => by rw [upd_ne (ne_of_none e hP)]; exact smB _ _ (sm3 _ _ e)⟩
          · rw [List.length_map, paired_len pt, List.length_take]; omega
          · rw [take_snoc hp]
            have key : ∀ z p, PrAt HB z p → PrAt (upd HB Pn (.lst (ts.map V.ref ++ [V.ref t]))) z p := fun z p e => by
              show upd HB Pn _ z = _
              rw [upd_ne (ne_of e gP2 (by intro z; cases z))]; exact e
            exact paired_snoc (key _ _ ht) (paired_imp (fun a x _ e => key _ _ (smB _ _ e)) pt)
        refine ⟨rfl, _, rfl, ca, [.str p.1, .str p.2], rfl, ?_⟩
        exact hc3.elim (fun z => .inl ⟨SqL.of z, fun l hl => fin l _ upd_same (same_upd hl)⟩) (fun z => .inr ⟨SqT.of z, fin _ _ z (fun _ _ e => e)⟩)
      rintro H3 ⟨ts, gP, pt, sm3⟩
      rw [List.length_map, hcl1, List.take_length] at pt
      have s03 := Same.tr s02 sm3
      have hPr : PrsAt H3 Pn ps := ⟨ts, gP, pt⟩
      refine ⟨_, rfl, Pn, rfl, ⟨_, SqL.of gP⟩, fun En hE => ?_⟩
      have htl := paired_len pt
      refine lc2_it walk_list (fun i H4 => ∃ n : Nat, H4 En = some (.lst ((List.replicate n true).map V.bl)) ∧ n ≤ i * 8 ∧ Same H3 H4) ⟨0, upd_same, Nat.zero_le _, same_upd hE⟩ (fun i H4 _ ⟨_, _, _, s⟩ => SqL.of (s _ _ gP)) ?_ ?_
      · rintro i x H4 H4' hi ⟨n, gE, hn, sm4⟩ ⟨rfl, hx⟩
        obtain ⟨t, ht, rfl⟩ := refs_get hx
        obtain ⟨p, hp, hpr⟩ := paired_get pt ht
        have hpm := List.mem_of_getElem? hp
        have hpp := hps p hpm
        have s04 := Same.tr s03 sm4
        have hi2 := (List.getElem?_eq_some_iff.mp ht).1
        have gE4 := gE
        refine ⟨rfl, _, rfl, b, dx, fs, rfl, s04 _ _ h1, lkL, b, M, rfl, Bx.same s04, ok, fun ll H5 hll gll sm5 => ⟨ll, rfl, ⟨_, SqL.of gll⟩, ?_⟩⟩
        refine lc2_in walk_list (fun j H6 => ∃ n : Nat, H6 En = some (.lst ((List.replicate n true).map V.bl)) ∧ n ≤ i * 8 + j ∧ H6 ll = some (.lst (M.L.map V.str)) ∧ Same H3 H6) ⟨n, sm5 _ _ gE, hn, gll, Same.tr sm4 sm5⟩ (fun j H6 _ ⟨_, _, _, s, _⟩ => SqL.of s) ?_ ?_
        · rintro j x H6 H6' hj ⟨n, gE, hn, gll6, s45⟩ ⟨rfl, hx⟩
          obtain ⟨a, ha, rfl⟩ := str_at hx
          have haL := List.mem_of_getElem? ha
          have s06 := Same.tr s03 s45
          have n1 := ok.sm _ (ok.st _ hpp.1 a haL)
          have n2 := ok.sm _ (ok.st _ hpp.2.1 a haL)
          have hj2 := (List.getElem?_eq_some_iff.mp ha).1
          have lf := ok.lf
          refine ⟨rfl, _, rfl, _, rfl, _, rfl, b, t, M, p, a, rfl, Bx.same s06, s45 _ _ hpr, hpp.1, hpp.2.1, haL, fun t2 H7 ht2 sm7 => ⟨_, rfl, t2, Pn, (M.d p.1 a, M.d p.2 a), ps, rfl, ht2, hPr.same (Same.tr s45 sm7), n1, n2, fun z hz => ⟨ok.sm _ (hps z hz).1, ok.sm _ (hps z hz).2.1⟩, fun H8 sm8 => ?_⟩⟩
          rw [hcl p hpm a haL]
          have nle : ll ≠ En := fun e => by
            rw [e] at hll
            rw [gE4] at hll; cases hll
          refine ⟨_, sm8 _ _ (sm7 _ _ gE), small1000 ?_, n + 1, ?_, by omega, by rw [upd_ne nle]; exact sm8 _ _ (sm7 _ _ gll6), fun z o e => by rw [upd_ne (ne_of_none e hE)]; exact sm8 _ _ (sm7 _ _ (s45 _ _ e))⟩
          · rw [List.length_map, List.length_replicate]; omega
          · rw [upd_same, List.replicate_succ', List.map_append]; rfl
        · rintro H6 ⟨n, gE, hn, _, s36⟩
          rw [List.length_map] at hn
          have lf := ok.lf
          exact ⟨n, gE, by omega, s36⟩
      · rintro H4 ⟨n, gE, hn, sm4⟩
        exact ⟨En, _, rfl, SqL.of gE, by rw [all_trues]; exact k _ (Same.tr s03 sm4)⟩
end
end K45
end
section
set_option maxRecDepth 100000
set_option maxHeartbeats 4000000
namespace K45
open PySem PySem.Spec L2
/-! ## the law's own search -/
/-- (states, row) at t, apart from the two lists that grow -/
structure NodeL (M : Mch) (H0 H : Hp) (sn lt : Addr) (t : Addr) (e : Node) : Prop where
  ex : ∃ sa ra : Addr, H t = some (.tup [.ref sa, .ref ra]) ∧ H sa = some (.lst (e.1.map V.str)) ∧ H ra = some (.lst ((lets M.L zz e.2).map V.str)) ∧ sa ≠ sn ∧ sa ≠ lt ∧ ra ≠ sn ∧ ra ≠ lt ∧ H0 ra = none
structure SeenL (H : Hp) (sn lt : Addr) (q : Addr) (y : List Str) : Prop where
  ob : H q = some (.lst (y.map V.str))
  n1 : q ≠ sn
  n2 : q ≠ lt
structure TurnL (M : Mch) (k0 : List Str) (H0 H : Hp) (sn lt : Addr) (b : Nat) (all : List Node) (p i : Nat) (ss us : List Addr) : Prop where
  gs : H sn = some (.lst (ss.map V.ref))
  gl : H lt = some (.lst (us.map V.ref))
  ne : sn ≠ lt
  sp : Paired (SeenL H sn lt) ss (all.tail.map (·.1))
  lp : Paired (NodeL M H0 H sn lt) us (all.drop b)
  B : BfsM M k0 all p i
  R : Srch M k0 all
  sm : Same H0 H
  le : b ≤ all.length
theorem SB.ob {p q : Addr} {H H' : Hp} (s : SB p q H H') {a : Addr} {o : HO} (h : H a = some o) (n1 : a ≠ p) (n2 : a ≠ q) : H' a = some o := s _ _ h n1 n2
theorem NodeL.sb {M : Mch} {H0 H H' : Hp} {sn lt t : Addr} {e : Node} {xs ys : List V} (h1 : H sn = some (.lst xs)) (h2 : H lt = some (.lst ys)) (n : NodeL M H0 H sn lt t e) (s : SB sn lt H H') : NodeL M H0 H' sn lt t e := by
  obtain ⟨sa, ra, a1, a2, a3, b1, b2, b3, b4, b5⟩ := n.ex
  exact ⟨sa, ra, s _ _ a1 (ne_of a1 h1 (by intro z; cases z)) (ne_of a1 h2 (by intro z; cases z)), s _ _ a2 b1 b2, s _ _ a3 b3 b4, b1, b2, b3, b4, b5⟩
theorem SeenL.sb {H H' : Hp} {sn lt q : Addr} {y : List Str} (n : SeenL H sn lt q y) (s : SB sn lt H H') : SeenL H' sn lt q y := ⟨s _ _ n.ob n.n1 n.n2, n.n1, n.n2⟩
def dNode (M : Mch) (e : Node) : PyData := .tuple [dRow e.1, dRow (lets M.L zz e.2)]
theorem dp_node {K : PySem.W.Frag} {M : Mch} {H0 H : Hp} {sn lt t : Addr} {e : Node} (n : NodeL M H0 H sn lt t e) : Dp K H (.ref t) (dNode M e) := by
  obtain ⟨sa, ra, a1, a2, a3, _⟩ := n.ex
  exact .tup (SqT.of a1) (.cons (dp_row (SqL.of a2)) (.cons (dp_row (SqL.of a3)) .nil))
theorem eqv_empty (ds : List PyData) : PyData.eqv (.list ds) (dRow []) = ds.isEmpty := by
  show PyData.eqv (.list ds) (.list []) = _
  cases ds with
  | nil => simp [PyData.eqv, PyData.eqvAll]
  | cons d ds => simp [PyData.eqv, PyData.eqvAll]
theorem any_row (ss : List (List Str)) (y : List Str) : ((ss.map dRow).any fun z => PyData.eqv z (dRow y)) = decide (y ∈ ss) := by
  induction ss with
  | nil => simp
  | cons x ss ih =>
    rw [List.map_cons, List.any_cons, ih, eqv_row]
    by_cases h1 : x = y
    · subst h1; simp
    · have h2 : ¬ y = x := fun e => h1 e.symm
      simp [h1, h2]
theorem lets_nm {M : Mch} (ok : M.Ok) {x : List Nat} (h : Lets M.L.length x) : Nms (lets M.L zz x) := fun a ha => ok.lm a (lets_in h a ha)
theorem lay_node {M : Mch} (ok : M.Ok) {e : Node} (h1 : ∀ x ∈ e.1, x ∈ M.S) (h2 : Lets M.L.length e.2) : Lay 2 (dNode M e) := Lay.tuple fun d hd => by
  rcases List.mem_cons.mp hd with rfl | hd
  · exact lay_row fun x hx => (ok.sm x (h1 x hx)).ok
  · rw [List.mem_singleton.mp hd]
    exact lay_row (lets_nm ok h2).oks
section
variable {P : Program} {w : World} {K : PySem.W.Frag} {mg : Str → Option Value} {base : Heap} {C : Addr}
def spLReset : Sp := fun vs H Q _ => ∃ (m : Addr) (M : Mch) (r : Str → Addr) (t : Str → Str → Addr), vs = [.ref m] ∧ Mv0 H m M r t ∧ M.Ok ∧
  (∀ (x : List Nat) (r : Addr) (H' : Hp), Fst M x → x.length ≤ 300 → H r = none → H' r = some (.lst ((lets M.L zz x).map V.str)) → Same H H' → Q (.ref r) H') ∧ (NoRes M → ∀ H', Same H H' → Q .non H')
abbrev sc_law_b_reset_st : Stmt := top 59
abbrev sc_law_b_reset_N : List Str := ["_law_moves", "_law_level", "_law_seen_so", "_law_later", "_law_states", "_law_row", "_law_letter", "_law_goals", "_law_state"]
theorem sc_law_b_reset : FnScope sc_law_b_reset_N ["_law_moves"] (C8.fnScope sc_law_b_reset_st) := C8.fnScope_by (by decide +kernel)
theorem c_law_b_reset (T : Txt K mg) (c_law_b_letters : Call1 P w K mg base 1 "_law_b_letters" spLets) (D : Dfn K mg "_law_b_reset" sc_law_b_reset_st ["_law_moves"]) : Call1 P w K mg base 2 "_law_b_reset" spLReset := by
  refine D.cal sc_law_b_reset (fun vs H Q E h => ?_) (fun f cdv A outer s H vs Q E hr h => ?_)
  · obtain ⟨m, M, r, t, rfl, _⟩ := h
    rfl
  · obtain ⟨m, M, r, t, rfl, mv, ok, k1, k2⟩ := h
    have hu := hu_of hr
    refine ⟨_, (pss_cons (ps_par (i := 1) (j := 2) (by rfl) sc_law_b_reset.nd rfl rfl (by decide) rfl rfl (pa_cons (pe_lst (pa_cons (pe_tup (pa_cons (pe_callB (sortedSK K) (by rfl) T.n_sorted (by decide +kernel) (pa_cons (pe_lock (pe_lc (own := [("_law_state", 8)]) (g := (gName 8)) (tt := tYes) rfl sc_law_b_reset.nd (pi_keys (pv 0)) (blkOk_by (N := sc_law_b_reset_N) (sc := C8.fnScope sc_law_b_reset_st) (by decide +kernel)) (fun _ _ _ _ _ => (pg_name (i := 8) sc_law_b_reset.nd rfl (by first | exact Or.inl rfl | exact Or.inr rfl))) (fun _ _ _ _ _ => pts_nil) (fun _ _ _ _ _ => (pe_callTy SkE.call_str_str (by rfl) T.n_str (by decide +kernel) (pa_cons (pv 8) pa_nil))))) pa_nil)) (pa_cons (pe_lst pa_nil) pa_nil))) pa_nil)) (pa_cons (pe_lst pa_nil) pa_nil)) (by rfl))
    (pss_cons (ps_while PassesOwn.never (pt_cmpR (neDK K hr.units) (pv 1) (pe_lst pa_nil) (nomark _))
     (pss_cons (ps_set (i := 3) sc_law_b_reset.nd rfl (by first | exact Or.inl rfl | exact Or.inr rfl) (pe_lst pa_nil))
      (pss_cons (ps_for PassesOwn.never rfl (listI K (pv 1)) (tupG K (n := 2) rfl (pgs_cons (pg_name (i := 4) sc_law_b_reset.nd rfl (by first | exact Or.inl rfl | exact Or.inr rfl)) (pgs_cons (pg_name (i := 5) sc_law_b_reset.nd rfl (by first | exact Or.inl rfl | exact Or.inr rfl)) pgs_nil)))
       (pss_cons (ps_if (pt_cmpR op_eq (pe_callB (lenK K) (by rfl) T.n_len (by decide +kernel) (pa_cons (pv 4) pa_nil)) pe_int (nomark _)) (pss_one (ps_ret (pv 5)))
         pss_nil)
        (pss_one (ps_for PassesOwn.never rfl (listI K (C8.pe_c c_law_b_letters hr (by decide) (by rfl) (pa_cons (pv 0) pa_nil))) (pg_name (i := 6) sc_law_b_reset.nd rfl (by first | exact Or.inl rfl | exact Or.inr rfl))
         (pss_cons (ps_set (i := 7) sc_law_b_reset.nd rfl (by first | exact Or.inl rfl | exact Or.inr rfl) (sortSet K rfl (by rfl) T.n_sorted (by rfl) T.n_set (pe_lc (own := [("_law_state", 8)]) (g := (gName 8)) (tt := tYes) rfl sc_law_b_reset.nd (listI K (pv 4)) (blkOk_by (N := sc_law_b_reset_N) (sc := C8.fnScope sc_law_b_reset_st) (by decide +kernel)) (fun _ _ _ _ _ => (pg_name (i := 8) sc_law_b_reset.nd rfl (by first | exact Or.inl rfl | exact Or.inr rfl))) (fun _ _ _ _ _ => pts_nil) (fun _ _ _ _ _ => (pe_callTy SkE.call_str_str (by rfl) T.n_str (by decide +kernel) (pa_cons (pe_ix (ix_tupK K) (pe_dget hu (pe_dget hu (pv 0) (pv 8) (fun _ _ => rfl)) (pv 6) (fun _ _ => rfl)) pe_int (fun _ _ => rfl)) pa_nil))))))
          (pss_one (ps_if (pt_cmpR (notInDK K (hu65_of hr)) (pv 7) (pv 2) rfl) (pss_cons (ps_expr (bmK K PySem.F.plainAttrs_list PySem.F.slot_list_append PySem.F.type_list_append mt_append (pv 2) (pa_cons (pv 7) pa_nil)))
            (pss_one (ps_expr (bmK K PySem.F.plainAttrs_list PySem.F.slot_list_append PySem.F.type_list_append mt_append (pv 3) (pa_cons (pe_tup (pa_cons (pv 7) (pa_cons (pe_op op_cat (pv 5) (pe_lst (pa_cons (pv 6) pa_nil))) pa_nil))) pa_nil)))))
           pss_nil)))))))
      (pss_one (ps_set (i := 1) sc_law_b_reset.nd rfl (by first | exact Or.inl rfl | exact Or.inr rfl) (pv 3))))))
    (pss_one (ps_ret pe_non)))), ?_⟩
    refine ⟨m, _, mv.top, True.intro, fun od => ⟨_, rfl, m, od, rfl, .inl ⟨_, upd_same, fun Dn hD => ?_⟩⟩⟩
    have fD := lock_free hD
    refine lc_it walk_keys (fun j H1 => H1 Dn = some (.lst ((M.S.take j).map V.str)) ∧ Same (upd H m (.frz od (.dK (tab M.S fun s => .ref (r s))))) H1) ⟨upd_same, same_upd hD⟩ (fun _ _ _ h => h.2 _ _ upd_same) ?_ ?_
    · rintro j x H1 H2 hj ⟨gD, sm⟩ ⟨rfl, kk, vv, hkv, rfl⟩
      obtain ⟨y, hy, rfl, rfl⟩ := tab_get hkv
      refine ⟨rfl, _, rfl, y, rfl, _, gD, small1000 ?_, ?_, fun b o e => by rw [upd_ne (ne_of_none e hD)]; exact sm b o e⟩
      · rw [List.length_map, List.length_take]
        have := ok.sf
        omega
      · rw [upd_same, take_snoc hy, List.map_append]; rfl
    rintro H1 ⟨gD, sm⟩
    rw [tab_len, List.take_length] at gD
    have s2 := same_unlock mv.top sm
    have gD2 : (upd H1 m (.dK (tab M.S fun s => .ref (r s)))) Dn = some (.lst (M.S.map V.str)) := by rw [upd_ne fD.1]; exact gD
    refine ⟨sm _ _ upd_same, ?_⟩
    generalize upd H1 m (.dK (tab M.S fun s => .ref (r s))) = H2 at s2 gD2
    refine ⟨Dn, M.S, rfl, SqL.of gD2, by have := ok.sf; omega, fun ys sl pm srt hsl => ?_⟩
    have up : Up sltb ys := sorted_up srt (pm.nodup_iff.mpr ok.sn)
    have ek : ys = canon sltb M.S := canon_of sltb_ord up fun x => pm.mem_iff
    rw [ek]
    have hk0 : ∀ x, x ∈ canon sltb M.S ↔ x ∈ M.S := fun x => mem_canon
    have hkn : (canon sltb M.S).Nodup := Up.nodup sltb_ord (up_canon sltb_ord M.S)
    generalize canon sltb M.S = k0 at hk0 hkn
    refine ⟨sz_le (by show 0 ≤ 1000; decide), fun rl hrl => ⟨sz_le (by show 2 ≤ 1000; decide), fun tn htn => ⟨sz_le (by show 1 ≤ 1000; decide), fun lv hlv => ⟨sz_le (by show 0 ≤ 1000; decide), fun sn hsn => ⟨_, _, rfl, ?_⟩⟩⟩⟩⟩
    have t3 := same_upd (o := .lst (k0.map V.str)) hsl
    have g3 : (upd H2 sl (.lst (k0.map V.str))) sl = some (.lst (k0.map V.str)) := upd_same
    generalize upd H2 sl (.lst (k0.map V.str)) = H3 at t3 g3 hrl htn hlv hsn
    have t4 := same_upd (o := .lst []) hrl
    have g4 : (upd H3 rl (.lst [])) rl = some (.lst []) := upd_same
    have hrl0 : H rl = none := Same.free s2 (Same.free t3 hrl)
    generalize upd H3 rl (.lst []) = H4 at t4 g4 htn hlv hsn
    have t5 := same_upd (o := .tup [.ref sl, .ref rl]) htn
    have g5 : (upd H4 tn (.tup [.ref sl, .ref rl])) tn = some (.tup [.ref sl, .ref rl]) := upd_same
    generalize upd H4 tn (.tup [.ref sl, .ref rl]) = H5 at t5 g5 hlv hsn
    have t6 := same_upd (o := .lst [.ref tn]) hlv
    have g6 : (upd H5 lv (.lst [.ref tn])) lv = some (.lst [.ref tn]) := upd_same
    generalize upd H5 lv (.lst [.ref tn]) = H6 at t6 g6 hsn
    have t7 := same_upd (o := .lst []) hsn
    have g7 : (upd H6 sn (.lst [])) sn = some (.lst []) := upd_same
    have hsn0 : H sn = none := Same.free s2 (Same.free t3 (Same.free t4 (Same.free t5 (Same.free t6 hsn))))
    have nsl : sl ≠ sn := ne_of_none (t6 _ _ (t5 _ _ (t4 _ _ g3))) hsn
    have nrl : rl ≠ sn := ne_of_none (t6 _ _ (t5 _ _ g4)) hsn
    have nlv : lv ≠ sn := ne_of_none g6 hsn
    have smA : Same H (upd H6 sn (.lst [])) := Same.tr s2 (Same.tr t3 (Same.tr t4 (Same.tr t5 (Same.tr t6 t7))))
    have gsl := t7 _ _ (t6 _ _ (t5 _ _ (t4 _ _ g3)))
    have grl := t7 _ _ (t6 _ _ (t5 _ _ g4))
    have gtn := t7 _ _ (t6 _ _ g5)
    have glv := t7 _ _ g6
    generalize upd H6 sn (.lst []) = H7 at g7 smA gsl grl gtn glv
    -- the rounds
    have hsub0 : ∀ x ∈ k0, x ∈ M.S := fun x hx => (hk0 x).mp hx
    refine ⟨fun mm σ HW => ∃ (all : List Node) (p : Nat) (lv : Addr) (ts ss : List Addr) (v3 v4 v5 v6 v7 : Option V), σ = [some (.ref m), some (.ref lv), some (.ref sn), v3, v4, v5, v6, v7, none] ∧ HW lv = some (.lst (ts.map V.ref)) ∧ HW sn = some (.lst (ss.map V.ref)) ∧ lv ≠ sn ∧
      Paired (fun q y => HW q = some (.lst (y.map V.str)) ∧ q ≠ sn) ss (all.tail.map (·.1)) ∧ Paired (NodeL M H HW sn sn) ts (all.drop p) ∧ BfsM M k0 all p 0 ∧ Srch M k0 all ∧ Same H HW ∧ p ≤ all.length ∧ mm = 300 - p,
      ⟨_, [(k0, [])], 0, lv, [tn], [], none, none, none, none, none, rfl, glv, g7, nlv, .nil, .cons ⟨sl, rl, gtn, gsl, grl, nsl, nsl, nrl, nrl, hrl0⟩ .nil, Bfs.init, Srch.init M k0, smA, Nat.zero_le _, rfl⟩, ?_⟩
    rintro mm σ HW ⟨all, p, lv, ts, ss, v3, v4, v5, v6, v7, rfl, glv, gsn, nlv, psn, pts, B, R, smW, hp, rfl⟩
    have hlen := R.len ok
    have hsubs := R.sub hsub0
    have htl := paired_len pts
    rw [List.length_drop] at htl
    refine ⟨_, rfl, sz_le (by show 0 ≤ 1000; decide), fun el hel => ?_⟩
    have te := same_upd (o := .lst []) hel
    have dlv : Dp K (upd HW el (.lst [])) (.ref lv) (.list ((all.drop p).map (dNode M))) := .lst (SqL.of (te _ _ glv)) (dp_each (F := fun t e => NodeL M H HW sn sn t e) (g := dNode M) (fun a x n => by
      obtain ⟨sa, ra, a1, a2, a3, _⟩ := n.ex
      exact .tup (SqT.of (te _ _ a1)) (.cons (dp_row (SqL.of (te _ _ a2))) (.cons (dp_row (SqL.of (te _ _ a3))) .nil))) pts)
    have llv : Lay 3 (.list ((all.drop p).map (dNode M))) := Lay.list fun d hd => by
      obtain ⟨e, he, rfl⟩ := List.mem_map.mp hd
      have hea := List.mem_of_mem_drop he
      exact lay_node ok (hsubs e hea) (B.run e hea).1
    refine ⟨_, dRow [], dlv, dp_row (xs := []) (SqL.of upd_same), llv.shaped (by decide), (lay_row (xs := []) (fun x hx => (by cases hx))).shaped (by decide), _, rfl, ?_⟩
    rw [eqv_empty]
    rcases (Nat.lt_or_ge p all.length).symm with hpl | hpl
    · have e0 : all.drop p = [] := List.drop_eq_nil_of_le (by omega)
      rw [e0]
      refine iteF ?_
      exact k2 (none_of ok hk0 hkn B (by omega)) _ (Same.tr smW te)
    have hne : ((all.drop p).map (dNode M)).isEmpty = false := by
      rw [List.drop_eq_getElem_cons hpl]; rfl
    rw [hne]
    refine iteT ⟨fun σ' H' => ∃ m', m' < 300 - p ∧ ∃ (all : List Node) (p : Nat) (lv : Addr) (ts ss : List Addr) (v3 v4 v5 v6 v7 : Option V), σ' = [some (.ref m), some (.ref lv), some (.ref sn), v3, v4, v5, v6, v7, none] ∧ H' lv = some (.lst (ts.map V.ref)) ∧ H' sn = some (.lst (ss.map V.ref)) ∧ lv ≠ sn ∧
      Paired (fun q y => H' q = some (.lst (y.map V.str)) ∧ q ≠ sn) ss (all.tail.map (·.1)) ∧ Paired (NodeL M H H' sn sn) ts (all.drop p) ∧ BfsM M k0 all p 0 ∧ Srch M k0 all ∧ Same H H' ∧ p ≤ all.length ∧ m' = 300 - p, fun σ' H' z => z, ?_⟩
    refine ⟨sz_le (by show 0 ≤ 1000; decide), fun lt hlt => ?_⟩
    have tl := same_upd2 (o := .lst []) te (Same.free te hlt)
    have hlt0 : HW lt = none := Same.free te hlt
    have glt : (upd (upd HW el (.lst [])) lt (.lst [])) lt = some (.lst []) := upd_same
    generalize upd (upd HW el (.lst [])) lt (.lst []) = HA at tl glt
    have nslt : sn ≠ lt := ne_of_none gsn hlt0
    have nlvt : lv ≠ lt := ne_of_none glv hlt0
    have hltH : H lt = none := Same.free smW hlt0
    have nodeA : ∀ t e, NodeL M H HW sn sn t e → NodeL M H HA sn lt t e := fun t e n => by
      obtain ⟨sa, ra, a1, a2, a3, b1, _, b3, _, b5⟩ := n.ex
      exact ⟨sa, ra, tl _ _ a1, tl _ _ a2, tl _ _ a3, b1, ne_of_none a2 hlt0, b3, ne_of_none a3 hlt0, b5⟩
    have T0 : TurnL M k0 H HA sn lt all.length all p 0 ss [] := ⟨tl _ _ gsn, glt, nslt, paired_imp (fun q y _ z => ⟨tl _ _ z.1, z.2, ne_of_none z.1 hlt0⟩) psn, by rw [List.drop_length]; exact .nil, B, R, Same.tr smW tl, Nat.le_refl _⟩
    have pA : Paired (NodeL M H HA sn lt) ts (all.drop p) := paired_imp (fun t e _ n => nodeA t e n) pts
    have glvA := tl _ _ glv
    refine ⟨_, rfl, lv, rfl, ⟨_, SqL.of glvA⟩, ?_⟩
    refine for_list (K := K) (a := lv) (xs := ts.map V.ref) (fun i σ HB => ∃ (al2 : List Node) (ss us : List Addr) (v4 v5 v6 v7 : Option V), σ = [some (.ref m), some (.ref lv), some (.ref sn), some (.ref lt), v4, v5, v6, v7, none] ∧ TurnL M k0 H HB sn lt all.length al2 (p + i) 0 ss us ∧ al2.take all.length = all ∧ HB lv = some (.lst (ts.map V.ref)) ∧
      Paired (NodeL M H HB sn lt) ts (all.drop p)) ⟨all, ss, [], v4, v5, v6, v7, rfl, T0, List.take_length, glvA, pA⟩ (fun i σ HB _ ⟨_, _, _, _, _, _, _, _, _, _, h, _⟩ => SqL.of h) ?_ ?_
    · rintro i x σ HB hi ⟨al2, ss, us, v4, v5, v6, v7, rfl, U, pre, glvB, pB⟩
      obtain ⟨t0, ht0, rfl⟩ := refs_get hi
      obtain ⟨fn, hfn, nd⟩ := paired_get pB ht0
      rw [List.getElem?_drop] at hfn
      have hf : al2[p + i]? = some fn := by
        have h1 := (List.getElem?_eq_some_iff.mp hfn).1
        have e : (al2.take all.length)[p + i]? = al2[p + i]? := by rw [List.getElem?_take, if_pos h1]
        rw [← e, pre]
        exact hfn
      obtain ⟨sa, ra, n1, n2, n3, n4, n5, n6, n7, n8⟩ := nd.ex
      refine ⟨_, _, rfl, SqT.of n1, rfl, _, _, rfl, _, _, rfl, rfl, ?_⟩
      refine ⟨_, rfl, .ref sa, fn.1.length, rfl, .inl ⟨_, SqL.of n2, by rw [List.length_map]⟩, rfl, _, rfl, ?_⟩
      by_cases hg : fn.1.length = 1
      · refine iteDT (by rw [hg]; rfl) ⟨_, rfl, ?_⟩
        exact k1 fn.2 ra HB (first_of ok hk0 hkn U.B hf hg) (by have h1 := word_len U.B hf; have h2 := (List.getElem?_eq_some_iff.mp hf).1; have h3 := U.R.len ok; omega) n8 n3 U.sm
      refine iteDF (fun e => hg (by injection e with e; omega)) ?_
      refine ⟨_, rfl, m, M, rfl, (mv.same U.sm).at, ok, fun ll HC hll gll smC => ⟨ll, rfl, ⟨_, SqL.of gll⟩, ?_⟩⟩
      have nn : sa ≠ sn ∧ sa ≠ lt ∧ ra ≠ sn ∧ ra ≠ lt := ⟨n4, n5, n6, n7⟩
      have nls : ll ≠ sn := (ne_of_none U.gs hll).symm
      have nll : ll ≠ lt := (ne_of_none U.gl hll).symm
      have UC : TurnL M k0 H HC sn lt all.length al2 (p + i) 0 ss us := ⟨smC _ _ U.gs, smC _ _ U.gl, U.ne, paired_imp (fun q y _ z => z.sb (sb_of smC)) U.sp, paired_imp (fun q y _ z => z.sb U.gs U.gl (sb_of smC)) U.lp, U.B, U.R, Same.tr U.sm smC, U.le⟩
      refine for_list (K := K) (a := ll) (xs := M.L.map V.str) (fun j σ HD => ∃ (al3 : List Node) (ss us : List Addr) (v6 v7 : Option V), σ = [some (.ref m), some (.ref lv), some (.ref sn), some (.ref lt), some (.ref sa), some (.ref ra), v6, v7, none] ∧ TurnL M k0 H HD sn lt all.length al3 (p + i) j ss us ∧ al3.take all.length = all ∧ HD lv = some (.lst (ts.map V.ref)) ∧
        Paired (NodeL M H HD sn lt) ts (all.drop p) ∧ al3[p + i]? = some fn ∧ HD sa = some (.lst (fn.1.map V.str)) ∧ HD ra = some (.lst ((lets M.L zz fn.2).map V.str)) ∧ HD ll = some (.lst (M.L.map V.str)))
        ⟨al2, ss, us, v6, v7, rfl, UC, pre, smC _ _ glvB, paired_imp (fun q y _ z => z.sb U.gs U.gl (sb_of smC)) pB, hf, smC _ _ n2, smC _ _ n3, gll⟩ (fun i σ HD _ ⟨_, _, _, _, _, _, _, _, _, _, _, _, _, h⟩ => SqL.of h) ?_ ?_
      · rintro j x σ HD hj ⟨al3, ss, us, v6, v7, rfl, U, pre, glvD, pD, hf, gsa, gra, gll⟩
        obtain ⟨a, ha, rfl⟩ := str_at hj
        have haL := List.mem_of_getElem? ha
        have hsub := U.R.sub hsub0 fn (List.mem_of_getElem? hf)
        have hfew := U.R.few ok hsub0 hkn fn (List.mem_of_getElem? hf)
        refine ⟨_, rfl, sa, rfl, ⟨_, SqL.of gsa⟩, fun Dn hD => ?_⟩
        refine lc_list (K := K) (a := sa) (xs := fn.1.map V.str) (fun j HE => HE Dn = some (.lst (((fn.1.take j).map fun s => M.d s a).map V.str)) ∧ Same HD HE) ⟨upd_same, same_upd hD⟩ (fun i HE _ h => SqL.of (h.2 _ _ gsa)) ?_ ?_
        · rintro j2 y HE hj2 ⟨gD, smE⟩
          obtain ⟨s, hs, rfl⟩ := str_at hj2
          have hsS := hsub s (List.mem_of_getElem? hs)
          have mvE := mv.same (Same.tr U.sm smE)
          refine ⟨rfl, _, rfl, _, rfl, m, _, rfl, .inl ⟨_, Sum.inr s, .inl mvE.top, rfl, (tab_in hsS).symm⟩, _, rfl, r s, _, rfl, .inl ⟨_, Sum.inr a, .inl (mvE.row s hsS), rfl, (tab_in haL).symm⟩, t s a, _, 1, _, rfl, rfl, SqT.of (mvE.cel s hsS a haL), rfl, _, rfl, _, gD, small1000 ?_, ?_, ?_⟩
          · rw [List.length_map, List.length_map, List.length_take]; omega
          · rw [upd_same, take_snoc hs, List.map_append, List.map_append]; rfl
          · exact fun z o e => by rw [upd_ne (ne_of_none e hD)]; exact smE z o e
        rintro HE ⟨gD, smE⟩
        rw [List.length_map, List.take_length] at gD
        refine ⟨Dn, _, rfl, SqL.of gD, by rw [List.length_map]; omega, fun ys lp up hmem hlp => ?_⟩
        have ey := step_of ha up hmem
        have tF := same_upd2 (o := .lst (ys.map V.str)) smE (Same.free smE hlp)
        have hlpD : HD lp = none := Same.free smE hlp
        have glp : (upd HE lp (.lst (ys.map V.str))) lp = some (.lst (ys.map V.str)) := upd_same
        generalize upd HE lp (.lst (ys.map V.str)) = HF at tF glp
        have sbF := sb_of (p := sn) (q := lt) tF
        have gsF := tF _ _ U.gs
        have glF := tF _ _ U.gl
        have spF : Paired (SeenL HF sn lt) ss (al3.tail.map (·.1)) := paired_imp (fun q y _ z => z.sb sbF) U.sp
        have lpF : Paired (NodeL M H HF sn lt) us (al3.drop all.length) := paired_imp (fun q y _ z => z.sb U.gs U.gl sbF) U.lp
        have pF : Paired (NodeL M H HF sn lt) ts (all.drop p) := paired_imp (fun q y _ z => z.sb U.gs U.gl sbF) pD
        have nlps : lp ≠ sn := (ne_of_none U.gs hlpD).symm
        have nlpt : lp ≠ lt := (ne_of_none U.gl hlpD).symm
        have ysS : ∀ x ∈ ys, x ∈ M.S := fun x hx => by
          obtain ⟨s, hs, e⟩ := List.mem_map.mp ((hmem x).mp hx)
          rw [← e]; exact ok.st s (hsub s hs) a haL
        have hi2 : j < M.L.length := (List.getElem?_eq_some_iff.mp ha).1
        have dseen : Dp K HF (.ref sn) (.list ((al3.tail.map (·.1)).map dRow)) := .lst (SqL.of gsF) (dp_each (F := SeenL HF sn lt) (g := dRow) (fun q y n => dp_row (SqL.of n.ob)) spF)
        have lseen : Lay 2 (.list ((al3.tail.map (·.1)).map dRow)) := Lay.list fun d hd => by
          obtain ⟨y, hy, rfl⟩ := List.mem_map.mp hd
          obtain ⟨e, he, rfl⟩ := List.mem_map.mp hy
          exact lay_row fun x hx => (ok.sm x (U.R.sub hsub0 e (List.mem_of_mem_tail he) x hx)).ok
        refine ⟨_, rfl, _, rfl, _, _, dp_row (SqL.of glp), dseen, (lay_row fun x hx => (ok.sm x (ysS x hx)).ok).shaped (by decide), lseen.shaped (by decide), _, rfl, ?_⟩
        rw [any_row]
        by_cases hin : ys ∈ al3.tail.map (·.1)
        · refine iteNS hin ?_
          obtain ⟨e, he, h2⟩ := List.mem_map.mp hin
          exact ⟨al3, ss, us, _, _, rfl, ⟨gsF, glF, U.ne, spF, lpF, U.B.skip hf hi2 ⟨e, List.mem_of_mem_tail he, by rw [h2, ey]⟩, U.R, Same.tr U.sm tF, U.le⟩, pre, tF _ _ glvD, pF, hf, tF _ _ gsa, tF _ _ gra, tF _ _ gll⟩
        refine iteNT hin ?_
        have hal := U.R.len ok
        have hssl : ss.length = al3.tail.length := by have := paired_len spF; rw [List.length_map] at this; exact this
        have husl : us.length = al3.length - all.length := by have := paired_len lpF; rw [List.length_drop] at this; exact this
        have htll : al3.tail.length ≤ al3.length := by rw [List.length_tail]; omega
        refine ⟨_, rfl, .inl ⟨rfl, _, SqL.of gsF⟩, _, rfl, sn, _, _, rfl, rfl, gsF, small1000 (by rw [List.length_map]; omega), ?_⟩
        have gsG : (upd HF sn (.lst (ss.map V.ref ++ [V.ref lp]))) sn = some (.lst (ss.map V.ref ++ [V.ref lp])) := upd_same
        have sbG : SB sn lt HF (upd HF sn (.lst (ss.map V.ref ++ [V.ref lp]))) := fun q o e h1 _ => by rw [upd_ne h1]; exact e
        have glG : (upd HF sn (.lst (ss.map V.ref ++ [V.ref lp]))) lt = some (.lst (us.map V.ref)) := by rw [upd_ne U.ne.symm]; exact glF
        obtain ⟨nsa, nst, nra, nrt⟩ := nn
        have graG := sbG _ _ (tF _ _ gra) nra nrt
        have glpG := sbG _ _ glp nlps nlpt
        generalize upd HF sn (.lst (ss.map V.ref ++ [V.ref lp])) = HG at gsG sbG glG graG glpG
        refine ⟨_, rfl, .inl ⟨rfl, _, SqL.of glG⟩, _, rfl, _, rfl, _, rfl, sz_le (by show 1 ≤ 1000; decide), fun al1 hal1 => ?_⟩
        have s10 := same_upd (o := .lst [.str a]) hal1
        have hfl := word_len U.B hf
        have hpi := (List.getElem?_eq_some_iff.mp hf).1
        refine ⟨ra, al1, _, _, rfl, rfl, s10 _ _ graG, upd_same, by rw [List.length_map, lets_len]; exact sz_le (by show fn.2.length + 1 ≤ 1000; omega), fun al hal2 => ⟨sz_le (by show 2 ≤ 1000; decide), fun tn htn => ?_⟩⟩
        have s11 := same_upd2 (o := .lst ((lets M.L zz fn.2).map V.str ++ [V.str a])) s10 (Same.free s10 hal2)
        have hal11 : (upd (upd HG al1 (.lst [.str a])) al (.lst ((lets M.L zz fn.2).map V.str ++ [V.str a]))) al = some (.lst ((lets M.L zz (fn.2 ++ [j])).map V.str)) := by
          rw [upd_same, lets_add M.L fn.2 ha, List.map_append]; rfl
        have hal9 : HG al = none := Same.free s10 hal2
        generalize upd (upd HG al1 (.lst [.str a])) al (.lst ((lets M.L zz fn.2).map V.str ++ [V.str a])) = H11 at s11 hal11 htn
        have s12 := same_upd2 (o := .tup [.ref lp, .ref al]) s11 (Same.free s11 htn)
        have hal12 : (upd H11 tn (.tup [.ref lp, .ref al])) al = some (.lst ((lets M.L zz (fn.2 ++ [j])).map V.str)) := by rw [upd_ne (ne_of_none hal11 htn)]; exact hal11
        have htn12 : (upd H11 tn (.tup [.ref lp, .ref al])) tn = some (.tup [.ref lp, .ref al]) := upd_same
        generalize upd H11 tn (.tup [.ref lp, .ref al]) = H12 at s12 hal12 htn12
        have gl12 := s12 _ _ glG
        have gs12 := s12 _ _ gsG
        refine ⟨lt, _, _, rfl, rfl, gl12, small1000 (by rw [List.length_map]; omega), ?_⟩
        have key : ∀ q o, H12 q = some o → q ≠ lt → (upd H12 lt (.lst (us.map V.ref ++ [V.ref tn]))) q = some o := fun q o e n => by rw [upd_ne n]; exact e
        have sb13 : SB sn lt HF (upd H12 lt (.lst (us.map V.ref ++ [V.ref tn]))) := fun q o e n1 n2 => key _ _ (s12 _ _ (sbG q o e n1 n2)) n2
        have nal1 : al ≠ sn := (ne_of_none gsG hal9).symm
        have nal2 : al ≠ lt := (ne_of_none glG hal9).symm
        have h0al : H al = none := by
          have h8 : ∀ o, HF al = some o → False := fun o e => by
            rw [sbG al o e nal1 nal2] at hal9; cases hal9
          cases e : H al with
          | none => rfl
          | some o => exact (h8 o (tF _ _ (U.sm _ _ e))).elim
        have ntail : (al3 ++ [(ys, fn.2 ++ [j])]).tail = al3.tail ++ [(ys, fn.2 ++ [j])] := by
          have := U.R.tail
          rw [this]; rfl
        refine ⟨al3 ++ [(ys, fn.2 ++ [j])], ss ++ [lp], us ++ [tn], _, _, rfl, ⟨?_, ?_, U.ne, ?_, ?_, ?_, ?_, ?_, ?_⟩, ?_, sb13 _ _ (tF _ _ glvD) nlv nlvt, paired_imp (fun q y _ z => z.sb gsF glF sb13) pF, get_app hf, sb13 _ _ (tF _ _ gsa) nsa nst, sb13 _ _ (tF _ _ gra) nra nrt, sb13 _ _ (tF _ _ gll) nls nll⟩
        · rw [List.map_append]; exact key _ _ gs12 U.ne
        · rw [upd_same, List.map_append]; rfl
        · rw [ntail, List.map_append]
          exact paired_snoc ⟨key _ _ (s12 _ _ glpG) nlpt, nlps, nlpt⟩ (paired_imp (fun q y _ z => z.sb sb13) spF)
        · rw [List.drop_append_of_le_length U.le]
          exact paired_snoc ⟨lp, al, key _ _ htn12 (ne_of htn12 gl12 (by intro z; cases z)), key _ _ (s12 _ _ glpG) nlpt, key _ _ hal12 nal2, nlps, nlpt, nal1, nal2, h0al⟩ (paired_imp (fun q y _ z => z.sb gsF glF sb13) lpF)
        · rw [ey]; exact U.B.add hf hi2
        · exact U.R.add up ysS hin
        · exact fun q o e => sb13 _ _ (tF _ _ (U.sm q o e)) (ne_of_none e hsn0) (ne_of_none e hltH)
        · rw [List.length_append]; have := U.le; omega
        · rw [List.take_append_of_le_length U.le]; exact pre
      · rintro σ HD ⟨al3, ss, us, v6, v7, rfl, U, pre, glvD, pD, hf, gsa, gra, gll⟩
        rw [List.length_map] at U
        exact ⟨al3, ss, us, _, _, _, _, rfl, ⟨U.gs, U.gl, U.ne, U.sp, U.lp, U.B.fin hf hg, U.R, U.sm, U.le⟩, pre, glvD, pD⟩
    · rintro σ HB ⟨al2, ss, us, v4, v5, v6, v7, rfl, U, pre, glvB, pB⟩
      rw [List.length_map, htl] at U
      have epl : p + (all.length - p) = all.length := by omega
      rw [epl] at U
      have hlen2 := U.R.len ok
      refine ⟨_, rfl, 300 - all.length, by omega, al2, all.length, lt, us, ss, _, _, _, _, _, rfl, U.gl, U.gs, U.ne.symm, paired_imp (fun q y _ z => ⟨z.ob, z.n1⟩) U.sp, paired_imp (fun t e _ n => ?_) U.lp, U.B, U.R, U.sm, U.le, rfl⟩
      obtain ⟨sa, ra, a1, a2, a3, b1, b2, b3, b4, b5⟩ := n.ex
      exact ⟨sa, ra, a1, a2, a3, b1, b1, b3, b3, b5⟩
end
end K45
end
section
set_option maxRecDepth 100000
set_option maxHeartbeats 4000000
namespace K45
open PySem PySem.Spec L2
/-- the moves, as they may be read: the top dict may be locked -/
structure MvR (H : Hp) (m : Addr) (M : Mch) (r : Str → Addr) (t : Str → Str → Addr) : Prop where
  top : Rd H m (.dK (tab M.S fun s => .ref (r s)))
  row : ∀ s ∈ M.S, H (r s) = some (.dK (tab M.L fun a => .ref (t s a)))
  cel : ∀ s ∈ M.S, ∀ a ∈ M.L, H (t s a) = some (.tup [.str (M.g s a), .str (M.d s a)])
theorem MvR.at {H : Hp} {m : Addr} {M : Mch} {r : Str → Addr} {t : Str → Str → Addr} (h : MvR H m M r t) : MvAt H m M := ⟨r, t, h.top, fun s hs => ⟨.inl (h.row s hs), h.cel s hs⟩⟩
theorem MvR.same {H H' : Hp} {m : Addr} {M : Mch} {r : Str → Addr} {t : Str → Str → Addr} (h : MvR H m M r t) (s : Same H H') : MvR H' m M r t := ⟨Rd.same h.top s, fun x hx => s _ _ (h.row x hx), fun x hx a ha => s _ _ (h.cel x hx a ha)⟩
theorem MvR.sb {H H' : Hp} {m p q : Addr} {c : Nat} {M : Mch} {r : Str → Addr} {t : Str → Str → Addr} (h : MvR H m M r t) (S : Str8 p q c H) (s : SB p q H H') : MvR H' m M r t := by
  have k : ∀ a o, H a = some o → (∀ xs, o ≠ .lst xs) → H' a = some o := fun a o e no => s a o e (S.nd e no).1 (S.nd e no).2
  exact ⟨h.top.elim (fun e => .inl (k _ _ e (by intro xs z; cases z))) fun ⟨o, e⟩ => .inr ⟨o, k _ _ e (by intro xs z; cases z)⟩, fun x hx => k _ _ (h.row x hx) (by intro xs z; cases z), fun x hx a ha => k _ _ (h.cel x hx a ha) (by intro xs z; cases z)⟩
theorem Mv0.lockR {H : Hp} {m : Addr} {M : Mch} {r : Str → Addr} {t : Str → Str → Addr} (h : Mv0 H m M r t) (ok : M.Ok) (o : Obj) : MvR (upd H m (.frz o (.dK (tab M.S fun s => .ref (r s))))) m M r t := by
  have n := h.ne ok
  refine ⟨.inr ⟨o, upd_same⟩, fun s hs => ?_, fun s hs a ha => ?_⟩
  · rw [upd_ne (n.1 s hs)]; exact h.row s hs
  · rw [upd_ne (n.2 s hs a ha)]; exact h.cel s hs a ha
/-- the box's rows as they grow; gv: the dict of them -/
structure GB (H : Hp) (p q gv : Addr) (M : Mch) (Ts : List Str) (r : Str → Addr) (t : Str → Str → Addr) (Ls : Str → List Str) : Prop where
  top : H gv = some (.dK (tab Ts fun s => .ref (r s)))
  row : ∀ s ∈ Ts, r s ≠ gv ∧ H (r s) = some (.dK (tab (Ls s) fun a => .ref (t s a)))
  per : ∀ s ∈ Ts, (Ls s).Perm M.L
  fst : ∀ s Z, M.S = s :: Z → s ∈ Ts → Ls s = M.L
  cel : ∀ s ∈ Ts, ∀ a ∈ M.L, Cell H (t s a) (.str (M.g s a)) (.str (M.d s a)) ∧ t s a ≠ p ∧ t s a ≠ q
theorem Cell.sb {H H' : Hp} {p q c : Addr} {x y : V} (h : Cell H c x y) (s : SB p q H H') (n1 : c ≠ p) (n2 : c ≠ q) : Cell H' c x y := h.imp (fun e => s _ _ e n1 n2) (fun e => s _ _ e n1 n2)
theorem GB.sb {H H' : Hp} {p q gv : Addr} {c : Nat} {M : Mch} {Ts : List Str} {r : Str → Addr} {t : Str → Str → Addr} {Ls : Str → List Str} (G : GB H p q gv M Ts r t Ls) (S : Str8 p q c H) (s : SB p q H H') : GB H' p q gv M Ts r t Ls := by
  have k : ∀ a o, H a = some o → (∀ xs, o ≠ .lst xs) → H' a = some o := fun a o e no => s a o e (S.nd e no).1 (S.nd e no).2
  exact ⟨k _ _ G.top (by intro xs z; cases z), fun x hx => ⟨(G.row x hx).1, k _ _ (G.row x hx).2 (by intro xs z; cases z)⟩, G.per, G.fst, fun x hx a ha => ⟨(G.cel x hx a ha).1.sb s (G.cel x hx a ha).2.1 (G.cel x hx a ha).2.2, (G.cel x hx a ha).2⟩⟩
theorem GB.other {H : Hp} {p q gv x : Addr} {M : Mch} {Ts : List Str} {r : Str → Addr} {t : Str → Str → Addr} {Ls : Str → List Str} {k0 k1 : List (Key × V)} (G : GB H p q gv M Ts r t Ls) (h1 : gv ≠ x) (h2 : ∀ s ∈ Ts, r s ≠ x) (h3 : H x = some (.dK k0) ∨ H x = none) : GB (upd H x (.dK k1)) p q gv M Ts r t Ls := by
  have ct : ∀ c y z, Cell H c y z → c ≠ x := fun c y z e h => by
    subst h
    rcases e with e | e <;> rcases h3 with h | h <;> (rw [e] at h; cases h)
  refine ⟨by rw [upd_ne h1]; exact G.top, fun s hs => ⟨(G.row s hs).1, by rw [upd_ne (h2 s hs)]; exact (G.row s hs).2⟩, G.per, G.fst, fun s hs a ha => ⟨?_, (G.cel s hs a ha).2⟩⟩
  have e := (G.cel s hs a ha).1
  have n := ct _ _ _ e
  exact e.imp (fun z => by rw [upd_ne n]; exact z) (fun z => by rw [upd_ne n]; exact z)
theorem GB.frz {H : Hp} {p q gv x : Addr} {M : Mch} {Ts : List Str} {r : Str → Addr} {t : Str → Str → Addr} {Ls : Str → List Str} {o : Obj} {u u2 : HO} (G : GB H p q gv M Ts r t Ls) (h : H x = some (.frz o u)) : GB (upd H x u2) p q gv M Ts r t Ls := by
  have key : ∀ a v, H a = some v → (∀ o u, v ≠ .frz o u) → (upd H x u2) a = some v := fun a v e n => by
    rw [upd_ne (ne_of e h (n _ _))]; exact e
  exact ⟨key _ _ G.top (by intro o u z; cases z), fun s hs => ⟨(G.row s hs).1, key _ _ (G.row s hs).2 (by intro o u z; cases z)⟩, G.per, G.fst, fun s hs a ha => ⟨(G.cel s hs a ha).1.imp (fun e => key _ _ e (by intro o u z; cases z)) (fun e => key _ _ e (by intro o u z; cases z)), (G.cel s hs a ha).2⟩⟩
theorem GB.same {H H' : Hp} {p q gv : Addr} {M : Mch} {Ts : List Str} {r : Str → Addr} {t : Str → Str → Addr} {Ls : Str → List Str} (G : GB H p q gv M Ts r t Ls) (s : Same H H') : GB H' p q gv M Ts r t Ls :=
  ⟨s _ _ G.top, fun x hx => ⟨(G.row x hx).1, s _ _ (G.row x hx).2⟩, G.per, G.fst, fun x hx a ha => ⟨(G.cel x hx a ha).1.same s, (G.cel x hx a ha).2⟩⟩
theorem GB.mvg {H : Hp} {p q gv : Addr} {M : Mch} {r : Str → Addr} {t : Str → Str → Addr} {Ls : Str → List Str} (G : GB H p q gv M M.S r t Ls) : MvG H gv M r t Ls :=
  ⟨.inl G.top, fun s hs => (G.row s hs).2, G.per, fun s Z h => G.fst s Z h (by rw [h]; simp), fun s hs a ha => (G.cel s hs a ha).1⟩
theorem SB.locked {p q d : Addr} {H H' : Hp} {x : HO} (s : SB p q H H') : SB p q (upd H d x) (upd H' d x) := fun b o e n1 n2 => by
  by_cases hb : b = d
  · subst hb
    rw [upd_same] at e ⊢; exact e
  · rw [upd_ne hb] at e ⊢; exact s b o e n1 n2
theorem SB.unlock {p q d : Addr} {H H' : Hp} {x u : HO} (hd : H d = some u) (s : SB p q (upd H d x) H') : SB p q H (upd H' d u) := fun b o e n1 n2 => by
  by_cases hb : b = d
  · subst hb
    rw [upd_same, ← hd]; exact e
  · rw [upd_ne hb]
    exact s b o (by rw [upd_ne hb]; exact e) n1 n2
/-- an empty row -/
def Zed (H : Hp) (p q z : Addr) : Prop := (H z = some (.lst []) ∨ H z = some (.tup [])) ∧ z ≠ p ∧ z ≠ q
theorem Zed.sb {H H' : Hp} {p q z : Addr} (h : Zed H p q z) (s : SB p q H H') : Zed H' p q z := ⟨h.1.imp (fun e => s _ _ e h.2.1 h.2.2) (fun e => s _ _ e h.2.1 h.2.2), h.2⟩
/-- one more state's row -/
theorem GB.more {H : Hp} {p q gv rw : Addr} {M : Mch} {i : Nat} {s : Str} {r : Str → Addr} {t : Str → Str → Addr} {Ls : Str → List Str} {tt : Str → Addr} {zs : List Str} (ok : M.Ok) (G : GB H p q gv M (M.S.take i) r t Ls) (hs : M.S[i]? = some s) (hne : rw ≠ gv)
    (hr : H rw = some (.dK (tab zs fun a => .ref (tt a)))) (hp : zs.Perm M.L) (h0 : i = 0 → zs = M.L) (hc : ∀ a ∈ zs, Cell H (tt a) (.str (M.g s a)) (.str (M.d s a)) ∧ tt a ≠ p ∧ tt a ≠ q) :
    GB (upd H gv (.dK (putK (tab (M.S.take i) fun s => .ref (r s)) (Sum.inr s : Key) (.ref rw)))) p q gv M (M.S.take (i + 1)) (fun z => if z = s then rw else r z) (fun z a => if z = s then tt a else t z a) (fun z => if z = s then zs else Ls z) := by
  have ns := nodup_take ok.sn hs
  have ct : ∀ c y z, Cell H c y z → c ≠ gv := fun c y z e h => by
    subst h
    rcases e with e | e <;> (rw [G.top] at e; cases e)
  have up : ∀ c y z, Cell H c y z → Cell (upd H gv (.dK (putK (tab (M.S.take i) fun s => .ref (r s)) (Sum.inr s : Key) (.ref rw)))) c y z := fun c y z e => e.imp (fun h => by rw [upd_ne (ct _ _ _ e)]; exact h) (fun h => by rw [upd_ne (ct _ _ _ e)]; exact h)
  have mem : ∀ z ∈ M.S.take (i + 1), z = s ∨ (z ≠ s ∧ z ∈ M.S.take i) := fun z hz => by
    rw [take_snoc hs, List.mem_append, List.mem_singleton] at hz
    by_cases e : z = s
    · exact .inl e
    · exact .inr ⟨e, hz.resolve_right e⟩
  refine ⟨?_, fun z hz => ?_, fun z hz => ?_, fun z Z hZ hz => ?_, fun z hz a ha => ?_⟩
  · rw [upd_same, tab_new ns, take_snoc hs]
    refine congrArg (fun l => some (HO.dK l)) (tab_congr fun b hb => ?_)
    by_cases e : b = s <;> simp [e]
  · rcases mem z hz with rfl | ⟨e, h⟩
    · simp only [if_true]
      exact ⟨hne, by rw [upd_ne hne]; exact hr⟩
    · simp only [e, if_false]
      exact ⟨(G.row z h).1, by rw [upd_ne (G.row z h).1]; exact (G.row z h).2⟩
  · rcases mem z hz with rfl | ⟨e, h⟩
    · simp only [if_true]; exact hp
    · simp only [e, if_false]; exact G.per z h
  · rcases mem z hz with rfl | ⟨e, h⟩
    · simp only [if_true]
      refine h0 ?_
      obtain ⟨h1, h2⟩ := List.getElem?_eq_some_iff.mp hs
      have h3 : M.S[0]? = some z := by rw [hZ]; rfl
      obtain ⟨h4, h5⟩ := List.getElem?_eq_some_iff.mp h3
      exact (List.getElem_inj (h₀ := h1) (h₁ := h4) ok.sn).mp (h2.trans h5.symm)
    · simp only [e, if_false]; exact G.fst z Z hZ h
  · rcases mem z hz with rfl | ⟨e, h⟩
    · simp only [if_true]
      have c := hc a (hp.mem_iff.mpr ha)
      exact ⟨up _ _ _ c.1, c.2⟩
    · simp only [e, if_false]
      have c := G.cel z h a ha
      exact ⟨up _ _ _ c.1, c.2⟩
section
variable {P : Program} {w : World} {K : PySem.W.Frag} {mg : Str → Option Value} {base : Heap} {C : Addr}
def spBBox (C : Addr) : Sp := fun vs H Q _ => ∃ (p q m qa tq e0 : Addr) (c : Nat) (M : Mch) (r : Str → Addr) (t : Str → Str → Addr), vs = [.ref p, .ref m, .ref qa] ∧ Str8 p q c H ∧ c + 900 ≤ 1000000 ∧ Mv0 H m M r t ∧ M.Ok ∧
  H qa = some (.dK [(Sum.inr "q", .ref tq)]) ∧ H tq = some (.tup [.ref e0, .non]) ∧ H e0 = some (.tup []) ∧
  ∀ (b : Addr) (c' : Nat) (H' : Hp), BoxAt C H' b M → c' ≤ c + 200 → Str8 p q c' H' → SB p q H H' → Q (.ref b) H'
abbrev sc_law_b_box_st : Stmt := top 50
abbrev sc_law_b_box_N : List Str := ["_law_stream", "_law_moves", "_law_asks", "_law_given", "_law_questions", "_law_at", "_law_state", "_law_letters", "_law_row", "_law_letter", "_law_name_here", "_law_marks"]
theorem sc_law_b_box : FnScope sc_law_b_box_N ["_law_stream", "_law_moves", "_law_asks"] (C8.fnScope sc_law_b_box_st) := C8.fnScope_by (by decide +kernel)
theorem c_law_b_box (T : Txt K mg) (c_law_b_letters : Call1 P w K mg base 1 "_law_b_letters" spLets) (c_law_mixed : Call1 P w K mg base 2 "_law_mixed" (spMixed K)) (c_law_pick : Call1 P w K mg base 2 "_law_pick" (spPick K)) (c_Box : Mak1 P w K mg base C 5 "Box" (spInit C))
    (D : Dfn K mg "_law_b_box" sc_law_b_box_st ["_law_stream", "_law_moves", "_law_asks"]) : Call1 P w K mg base 7 "_law_b_box" (spBBox C) := by
  refine D.cal sc_law_b_box (fun vs H Q E h => ?_) (fun f cdv A outer s H vs Q E hr h => ?_)
  · obtain ⟨p, q, m, qa, tq, e0, c, M, r, t, rfl, _⟩ := h
    rfl
  · obtain ⟨p, q, m, qa, tq, e0, c, M, r, t, rfl, S8, hc, mv, ok, hqa, htq, he0, k⟩ := h
    have hu := hu_of hr
    refine ⟨_, (pss_cons (ps_par (i := 3) (j := 4) (by rfl) sc_law_b_box.nd rfl rfl (by decide) rfl rfl (pa_cons pe_dnewK (pa_cons pe_dnewK pa_nil)) (by rfl))
    (pss_cons (ps_lock (ps_for PassesOwn.never rfl (enumD (by rfl) T.n_enumerate (pa_cons (pv 1) pa_nil)) (tupG K (n := 2) rfl (pgs_cons (pg_name (i := 5) sc_law_b_box.nd rfl (by first | exact Or.inl rfl | exact Or.inr rfl)) (pgs_cons (pg_name (i := 6) sc_law_b_box.nd rfl (by first | exact Or.inl rfl | exact Or.inr rfl)) pgs_nil)))
     (C8.pss_cut (ps_set (i := 7) sc_law_b_box.nd rfl (by first | exact Or.inl rfl | exact Or.inr rfl) (pe_ifExp (pt_cmpR op_eq (pv 5) pe_int (nomark _)) (C8.pe_c c_law_b_letters hr (by decide) (by rfl) (pa_cons (pv 1) pa_nil)) (C8.pe_c c_law_mixed hr (by decide) (by rfl) (pa_cons (pv 0) (pa_cons (C8.pe_c c_law_b_letters hr (by decide) (by rfl) (pa_cons (pv 1) pa_nil)) pa_nil)))))
      (pss_cons (ps_set (i := 8) sc_law_b_box.nd rfl (by first | exact Or.inl rfl | exact Or.inr rfl) pe_dnewK)
      (pss_cons (ps_for PassesOwn.never rfl (listI K (pv 7)) (pg_name (i := 9) sc_law_b_box.nd rfl (by first | exact Or.inl rfl | exact Or.inr rfl))
       (pss_one (ps_dput hu (pv 8) (pv 9) (C8.pe_c c_law_pick hr (by decide) (by rfl) (pa_cons (pv 0) (pa_cons (pe_lst (pa_cons (pe_callTy (listK K) (by rfl) T.n_list (by decide +kernel) (pa_cons (pe_dget hu (pe_dget hu (pv 1) (pv 6) (fun _ _ => rfl)) (pv 9) (fun _ _ => rfl)) pa_nil)) (pa_cons (pe_dget hu (pe_dget hu (pv 1) (pv 6) (fun _ _ => rfl)) (pv 9) (fun _ _ => rfl)) pa_nil))) pa_nil))) rfl)))
      (pss_one (ps_dput hu (pv 3) (pv 6) (pv 8) rfl)))))))
    (pss_cons (ps_lock (ps_for PassesOwn.never rfl (pi_keys (pv 2)) (pg_name (i := 10) sc_law_b_box.nd rfl (by first | exact Or.inl rfl | exact Or.inr rfl))
     (pss_cons (ps_asg (pe_dget hu (pv 2) (pv 10) (fun _ _ => rfl)) (tupG K (n := 2) rfl (pgs_cons (pg_name (i := 8) sc_law_b_box.nd rfl (by first | exact Or.inl rfl | exact Or.inr rfl)) (pgs_cons (pg_name (i := 11) sc_law_b_box.nd rfl (by first | exact Or.inl rfl | exact Or.inr rfl)) pgs_nil))))
      (pss_cons (ps_set (i := 8) sc_law_b_box.nd rfl (by first | exact Or.inl rfl | exact Or.inr rfl) (C8.pe_c c_law_pick hr (by decide) (by rfl) (pa_cons (pv 0) (pa_cons (pe_lst (pa_cons (pe_callTy (listK K) (by rfl) T.n_list (by decide +kernel) (pa_cons (pv 8) pa_nil)) (pa_cons (pv 8) pa_nil))) pa_nil))))
      (pss_one (ps_dput hu (pv 4) (pv 10) (pe_ifExp (pt_cmp (pc_isN (pv 11)) rfl) (pv 8) (C8.pe_c c_law_pick hr (by decide) (by rfl) (pa_cons (pv 0) (pa_cons (pe_lst (pa_cons (pe_lst (pa_cons (pv 8) (pa_cons (pv 11) pa_nil))) (pa_cons (pe_tup (pa_cons (pv 8) (pa_cons (pv 11) pa_nil))) pa_nil))) pa_nil)))) rfl))))))
    (pss_one (ps_ret (C8.pe_mk c_Box hr (by decide) (by rfl) (pa_cons (pv 3) (pa_cons (pv 4) pa_nil)))))))), ?_⟩
    intro gv hgv qs hqs
    have t1 := same_upd (o := .dK []) hgv
    have t2 := same_upd2 (o := .dK []) t1 (Same.free t1 hqs)
    have hqs0 : H qs = none := Same.free t1 hqs
    have ggv : (upd (upd H gv (.dK [])) qs (.dK [])) gv = some (.dK []) := by rw [upd_ne (ne_of_none upd_same hqs)]; exact upd_same
    have gqs : (upd (upd H gv (.dK [])) qs (.dK [])) qs = some (.dK []) := upd_same
    have ngq : gv ≠ qs := fun e => by rw [e, upd_same] at hqs; cases hqs
    refine ⟨_, _, rfl, ?_⟩
    generalize upd (upd H gv (.dK [])) qs (.dK []) = H2 at t2 ggv gqs
    have mv2 := mv.same t2
    have ngm : gv ≠ m := (ne_of_none mv.top hgv).symm
    have nqm : qs ≠ m := (ne_of_none mv.top hqs0).symm
    refine ⟨m, _, mv2.top, True.intro, fun od => ⟨_, rfl, m, od, _, rfl, upd_same, ?_⟩⟩
    have R0 := mv.lockR ok od
    -- all but the new dicts is as it was, the moves locked
    have sL : Same (upd H m (.frz od (.dK (tab M.S fun s => .ref (r s))))) (upd H2 m (.frz od (.dK (tab M.S fun s => .ref (r s))))) := fun b o e => by
      by_cases hb : b = m
      · subst hb
        rw [upd_same] at e ⊢; exact e
      · rw [upd_ne hb] at e ⊢
        exact t2 _ _ e
    have S8L : Str8 p q c (upd H m (.frz od (.dK (tab M.S fun s => .ref (r s))))) := S8.put (S8.nd mv.top (by intro xs z; cases z)).1 (S8.nd mv.top (by intro xs z; cases z)).2
    have R0s := R0
    refine for_it walk_ekeys (fun i σ H3 => ∃ (r2 : Str → Addr) (t2 : Str → Str → Addr) (Ls : Str → List Str) (c3 : Nat) (v5 v6 v7 v8 v9 : Option V), σ = [some (.ref p), some (.ref m), some (.ref qa), some (.ref gv), some (.ref qs), v5, v6, v7, v8, v9, none, none] ∧
      GB H3 p q gv M (M.S.take i) r2 t2 Ls ∧ (∀ z ∈ M.S.take i, r2 z ≠ qs) ∧ H3 qs = some (.dK []) ∧ c3 ≤ c + 16 * i ∧ Str8 p q c3 H3 ∧ SB p q (upd H m (.frz od (.dK (tab M.S fun s => .ref (r s))))) H3)
      ⟨fun _ => 0, fun _ _ => 0, fun _ => [], c, none, none, none, none, none, rfl, ⟨by rw [upd_ne ngm]; exact ggv, fun s hs => absurd hs (by simp), fun s hs => absurd hs (by simp), fun s Z _ hs => absurd hs (by simp), fun s hs => absurd hs (by simp)⟩, fun z hz => absurd hz (by simp), by rw [upd_ne nqm]; exact gqs, Nat.le_refl _, S8L.same sL, sb_of sL⟩
      (fun i σ H3 _ ⟨_, _, _, _, _, _, _, _, _, _, _, _, _, _, _, sb⟩ => sb _ _ upd_same (S8.nd mv.top (by intro xs z; cases z)).1 (S8.nd mv.top (by intro xs z; cases z)).2) ?_ ?_
    · rintro i x σ H3 H4 hi ⟨r2, t2, Ls, c3, v5, v6, v7, v8, v9, rfl, G, nrqs, gqs3, hc3, S83, sb3⟩ ⟨Tp, x1, y1, rfl, hT, rfl, e1, e2⟩
      obtain rfl := Option.some.inj e1
      obtain ⟨s, hs, rfl⟩ : ∃ s, M.S[i]? = some s ∧ y1 = .str s := by
        have e2' : ((tab M.S fun s => V.ref (r s))[i]?.map fun kv => kV kv.1) = some y1 := e2
        obtain ⟨kv, hkv, e⟩ := Option.map_eq_some_iff.mp e2'
        obtain ⟨z, hz, h1, _⟩ := tab_get (k := kv.1) (v := kv.2) hkv
        exact ⟨z, hz, by rw [← e, h1]; rfl⟩
      have hsS := List.mem_of_getElem? hs
      have hiS := (List.getElem?_eq_some_iff.mp hs).1
      have sf := ok.sf
      have lf := ok.lf
      have tT := same_upd (o := .tup [.int (i : Nat), .str s]) hT
      refine ⟨_, _, rfl, SqT.of upd_same, rfl, _, _, rfl, _, _, rfl, rfl, ?_⟩
      have G4 := G.sb S83 (sb_of tT)
      have gqs4 := tT _ _ gqs3
      have S84 := S83.same tT
      have sb4 := sb3.trans (sb_of tT)
      generalize upd H3 Tp (.tup [.int (i : Nat), .str s]) = H4 at G4 gqs4 S84 sb4
      have R4 := R0.sb S8L sb4
      refine ⟨fun σ' H5 => ∃ (ll : Addr) (zs : List Str) (c5 : Nat), σ' = [some (.ref p), some (.ref m), some (.ref qa), some (.ref gv), some (.ref qs), some (.int (i : Nat)), some (.str s), some (.ref ll), v8, v9, none, none] ∧ H5 ll = some (.lst (zs.map V.str)) ∧ ll ≠ p ∧ ll ≠ q ∧ zs.Perm M.L ∧ (i = 0 → zs = M.L) ∧
        c5 ≤ c3 + 8 ∧ Str8 p q c5 H5 ∧ SB p q H4 H5, ?_, ?_⟩
      · refine ⟨_, rfl, rfl, _, rfl, ?_⟩
        refine ite2 (fun h0 => ?_) fun h0 => ?_
        · refine ⟨_, rfl, m, M, rfl, R4.at, ok, fun ll H5 hll gll sm5 => ?_⟩
          have nn := S84.nnew hll
          exact ⟨ll, M.L, c3, rfl, gll, nn.1, nn.2, List.Perm.refl _, fun _ => rfl, by omega, S84.same sm5, sb_of sm5⟩
        · refine ⟨_, rfl, _, rfl, m, M, rfl, R4.at, ok, fun l0 H5 hl0 gl0 sm5 => ?_⟩
          have nn := S84.nnew hl0
          refine ⟨p, q, l0, c3, _, rfl, S84.same sm5, by rw [List.length_map]; omega, SqL.of gl0, nn.1, nn.2, by rw [List.length_map]; omega, fun ys ll H6 pm hll gll S86 sb6 => ?_⟩
          obtain ⟨zs, pz, rfl⟩ := perm_map (g := vStr) (fun _ => rfl) pm
          have hll4 : H4 ll = none := Same.free sm5 hll
          have n2 := S84.nnew hll4
          rw [List.length_map] at S86
          refine ⟨ll, zs, c3 + M.L.length, rfl, gll, n2.1, n2.2, pz, fun e => ?_, by omega, S86, (sb_of sm5).trans sb6⟩
          exact absurd (by rw [e]; rfl) h0
      · rintro σ' H5 ⟨ll, zs, c5, rfl, gll, nl1, nl2, pz, hz0, hc5, S85, sb5⟩
        have zl : zs.length = M.L.length := pz.length_eq
        intro rw hrw
        have tR := same_upd (o := .dK []) hrw
        have G5 := G4.sb S84 sb5
        have gqs5 := sb5 _ _ gqs4 (S84.nd gqs4 (by intro xs z; cases z)).1 (S84.nd gqs4 (by intro xs z; cases z)).2
        have nrg : rw ≠ gv := (ne_of_none G5.top hrw).symm
        have nrq : rw ≠ qs := (ne_of_none gqs5 hrw).symm
        have nrr : ∀ z ∈ M.S.take i, r2 z ≠ rw := fun z hz => ne_of_none (G5.row z hz).2 hrw
        have nrp := S85.nnew hrw
        have sb45 := sb4.trans sb5
        have nrH : upd H m (.frz od (.dK (tab M.S fun s => .ref (r s)))) rw = none := sb45.free S85 hrw
        refine ⟨_, rfl, ll, rfl, ⟨_, SqL.of (tR _ _ gll)⟩, ?_⟩
        refine for_list (K := K) (a := ll) (xs := zs.map V.str) (fun j σ H6 => ∃ (tt : Str → Addr) (c6 : Nat) (v9 : Option V), σ = [some (.ref p), some (.ref m), some (.ref qa), some (.ref gv), some (.ref qs), some (.int (i : Nat)), some (.str s), some (.ref ll), some (.ref rw), v9, none, none] ∧ H6 rw = some (.dK (tab (zs.take j) fun a => .ref (tt a))) ∧
          (∀ a ∈ zs.take j, Cell H6 (tt a) (.str (M.g s a)) (.str (M.d s a)) ∧ tt a ≠ p ∧ tt a ≠ q) ∧ H6 ll = some (.lst (zs.map V.str)) ∧ GB H6 p q gv M (M.S.take i) r2 t2 Ls ∧ H6 qs = some (.dK []) ∧ c6 ≤ c5 + j ∧ Str8 p q c6 H6 ∧ SB p q (upd H m (.frz od (.dK (tab M.S fun s => .ref (r s))))) H6)
          ⟨fun _ => 0, c5, v9, rfl, upd_same, fun a ha => absurd ha (by simp), tR _ _ gll, G5.sb S85 (sb_of tR), tR _ _ gqs5, Nat.le_refl _, S85.same tR, sb45.trans (sb_of tR)⟩ (fun i σ H6 _ ⟨_, _, _, _, _, _, h, _⟩ => SqL.of h) ?_ ?_
        · rintro j y σ H6 hj ⟨tt, c6, v9, rfl, grw, cels, gll6, G6, gqs6, hc6, S86, sb6⟩
          obtain ⟨a, ha, rfl⟩ := str_at hj
          have haz := List.mem_of_getElem? ha
          have haL := pz.mem_iff.mp haz
          have hjz := (List.getElem?_eq_some_iff.mp ha).1
          have R6 := R0.sb S8L sb6
          have hcel := R6.cel s hsS a haL
          refine ⟨_, rfl, _, rfl, _, rfl, m, _, rfl, .inl ⟨_, Sum.inr s, R6.top, rfl, (tab_in hsS).symm⟩, _, rfl, r s, _, rfl, .inl ⟨_, Sum.inr a, .inl (R6.row s hsS), rfl, (tab_in haL).symm⟩, t s a, _, rfl, .inr (SqT.of hcel), fun nl hnl => ?_⟩
          have tN := same_upd (o := .lst [.str (M.g s a), .str (M.d s a)]) hnl
          have R7 := R6.same tN
          refine ⟨_, rfl, _, rfl, m, _, rfl, .inl ⟨_, Sum.inr s, R7.top, rfl, (tab_in hsS).symm⟩, _, rfl, r s, _, rfl, .inl ⟨_, Sum.inr a, .inl (R7.row s hsS), rfl, (tab_in haL).symm⟩, sz_le (by show 2 ≤ 1000; decide), fun pl hpl => ?_⟩
          have tP := same_upd2 (o := .lst [.ref nl, .ref (t s a)]) tN (Same.free tN hpl)
          have nnl := S86.nnew hnl
          have npl := S86.nnew (Same.free tN hpl)
          have ntc := S86.nd hcel (by intro xs z; cases z)
          have gnl : (upd (upd H6 nl (.lst [.str (M.g s a), .str (M.d s a)])) pl (.lst [.ref nl, .ref (t s a)])) nl = some (.lst [.str (M.g s a), .str (M.d s a)]) := by rw [upd_ne (ne_of_none upd_same hpl)]; exact upd_same
          refine ⟨p, q, pl, c6, [.ref nl, .ref (t s a)], rfl, S86.same tP, by omega, SqL.of upd_same, npl.1, npl.2, by show 0 < 2; decide, by show 2 < 1000; decide, fun i2 v H7 hv S87 sb7 => ?_⟩
          have S8P := S86.same tP
          obtain ⟨cc, rfl, hcc⟩ : ∃ cc, v = .ref cc ∧ (Cell H7 cc (.str (M.g s a)) (.str (M.d s a)) ∧ cc ≠ p ∧ cc ≠ q) := by
            match i2, hv with
            | 0, hv => exact ⟨nl, (Option.some.inj hv).symm, .inl (sb7 _ _ gnl nnl.1 nnl.2), nnl⟩
            | 1, hv => exact ⟨t s a, (Option.some.inj hv).symm, .inr (sb7 _ _ (tP _ _ hcel) ntc.1 ntc.2), ntc⟩
          have sb67 : SB p q H6 H7 := (sb_of tP).trans sb7
          have grw7 := sb67 _ _ grw nrp.1 nrp.2
          have gqs7 := sb67 _ _ gqs6 (S86.nd gqs6 (by intro xs z; cases z)).1 (S86.nd gqs6 (by intro xs z; cases z)).2
          have nza := nodup_take (pz.nodup_iff.mpr ok.ln) ha
          refine ⟨_, rfl, _, rfl, rw, _, rfl, DPut.k (k := Sum.inr a) grw7 (small1000 (by rw [tab_len, List.length_take]; omega)), ?_⟩
          have cw : ∀ c y z, Cell H7 c y z → c ≠ rw := fun c y z e h => by
            rw [h] at e
            rcases e with e | e <;> (rw [grw7] at e; cases e)
          have cu : ∀ c y z, Cell H7 c y z → Cell (upd H7 rw (.dK (putK (tab (zs.take j) fun a => .ref (tt a)) (Sum.inr a : Key) (.ref cc)))) c y z := fun c y z e => e.imp (fun h => by rw [upd_ne (cw _ _ _ e)]; exact h) (fun h => by rw [upd_ne (cw _ _ _ e)]; exact h)
          refine ⟨fun b => if b = a then cc else tt b, c6 + 1, _, rfl, ?_, fun b hb => ?_, ?_, (G6.sb S86 sb67).other nrg.symm nrr (.inl grw7), ?_, by omega, S87.put nrp.1 nrp.2, ?_⟩
          · rw [upd_same, tab_new nza, take_snoc ha]
            refine congrArg (fun l => some (HO.dK l)) (tab_congr fun b hb => ?_)
            by_cases e : b = a <;> simp [e]
          · rw [take_snoc ha, List.mem_append, List.mem_singleton] at hb
            by_cases e : b = a
            · subst e
              simp only [if_true]
              exact ⟨cu _ _ _ hcc.1, hcc.2⟩
            · simp only [e, if_false]
              have h := cels b (hb.resolve_right e)
              exact ⟨cu _ _ _ (h.1.sb sb67 h.2.1 h.2.2), h.2⟩
          · have g7 := sb67 _ _ gll6 nl1 nl2
            rw [upd_ne (ne_of g7 grw7 (by intro z; cases z))]; exact g7
          · rw [upd_ne nrq.symm]; exact gqs7
          · exact fun z o e n1 n2 => by
              have := sb6 z o e n1 n2
              rw [upd_ne (ne_of_none e nrH)]; exact sb67 _ _ this n1 n2
        · rintro σ H6 ⟨tt, c6, v9, rfl, grw, cels, gll6, G6, gqs6, hc6, S86, sb6⟩
          rw [List.length_map, List.take_length] at grw cels
          rw [List.length_map] at hc6
          have ngH : upd H m (.frz od (.dK (tab M.S fun s => .ref (r s)))) gv = none := by rw [upd_ne ngm]; exact hgv
          have ngp := S8.nnew hgv
          refine ⟨_, rfl, _, rfl, _, rfl, gv, _, rfl, DPut.k (k := Sum.inr s) G6.top (small1000 (by rw [tab_len, List.length_take]; omega)), _, _, _, c6, _, _, _, _, _, rfl, G6.more ok hs nrg grw pz hz0 cels, fun z hz => ?_, ?_, by omega, S86.put ngp.1 ngp.2, ?_⟩
          · rw [take_snoc hs, List.mem_append, List.mem_singleton] at hz
            by_cases e : z = s
            · simp only [e, if_true]; exact nrq
            · simp only [e, if_false]; exact nrqs z (hz.resolve_right e)
          · rw [upd_ne ngq.symm]; exact gqs6
          · exact fun z o e n1 n2 => by rw [upd_ne (ne_of_none e ngH)]; exact sb6 z o e n1 n2
    · rintro σ H3 ⟨r2, t2, Ls, c3, v5, v6, v7, v8, v9, rfl, G, nrqs, gqs3, hc3, S83, sb3⟩
      rw [tab_len, List.take_length] at G nrqs
      rw [tab_len] at hc3
      have sf := ok.sf
      have nmp := S8.nd mv.top (by intro xs z; cases z)
      have hm3 := sb3 _ _ upd_same nmp.1 nmp.2
      refine ⟨hm3, ?_⟩
      have sb4 := sb3.unlock mv.top
      have G4 := G.frz (u2 := .dK (tab M.S fun s => .ref (r s))) hm3
      have gqs4 : (upd H3 m (.dK (tab M.S fun s => .ref (r s)))) qs = some (.dK []) := by rw [upd_ne nqm]; exact gqs3
      have S84 := S83.put (o := .dK (tab M.S fun s => .ref (r s))) nmp.1 nmp.2
      generalize upd H3 m (.dK (tab M.S fun s => .ref (r s))) = H4 at sb4 G4 gqs4 S84
      have nqp := S8.nd hqa (by intro xs z; cases z)
      have ntp := S8.nd htq (by intro xs z; cases z)
      have nep := S8.nd he0 (by intro xs z; cases z)
      have nsp := S8.nnew hqs0
      have hqa4 := sb4 _ _ hqa nqp.1 nqp.2
      have nsq : qs ≠ qa := (ne_of_none hqa hqs0).symm
      have ngqa : gv ≠ qa := (ne_of_none hqa hgv).symm
      refine ⟨qa, _, hqa4, True.intro, fun od2 => ⟨_, rfl, qa, od2, rfl, .inl ⟨_, upd_same, ?_⟩⟩⟩
      have ctq : ∀ a ∈ M.S, r2 a ≠ qa := fun a ha e => by
        have h1 := (G4.row a ha).2
        rw [e, hqa4] at h1
        have h2 : [((Sum.inr "q" : Key), V.ref tq)] = tab (Ls a) (fun b => V.ref (t2 a b)) := HO.dK.inj (Option.some.inj h1)
        obtain ⟨l0, L', eL⟩ := List.exists_cons_of_ne_nil ok.l0
        have hl0 : l0 ∈ M.L := by rw [eL]; simp
        cases eZ : Ls a with
        | nil => rw [eZ] at h2; simp [tab] at h2
        | cons b0 Z =>
          rw [eZ] at h2
          have h4 := V.ref.inj (Prod.mk.inj (List.cons.inj h2).1).2
          have hb0 : b0 ∈ M.L := (G4.per a ha).mem_iff.mp (by rw [eZ]; simp)
          have h5 := (G4.cel a ha b0 hb0).1
          rw [← h4] at h5
          have h6 := sb4 _ _ htq ntp.1 ntp.2
          rcases h5 with h5 | h5 <;> (rw [h6] at h5; cases h5)
      have G4L : GB (upd H4 qa (.frz od2 (.dK [(Sum.inr "q", .ref tq)]))) p q gv M M.S r2 t2 Ls := by
        refine ⟨by rw [upd_ne ngqa]; exact G4.top, fun a ha => ⟨(G4.row a ha).1, by rw [upd_ne (ctq a ha)]; exact (G4.row a ha).2⟩, G4.per, G4.fst, fun a ha b hb => ⟨?_, (G4.cel a ha b hb).2⟩⟩
        have h := (G4.cel a ha b hb).1
        exact h.imp (fun e => by rw [upd_ne (ne_of e hqa4 (by intro z; cases z))]; exact e) (fun e => by rw [upd_ne (ne_of e hqa4 (by intro z; cases z))]; exact e)
      refine for_it walk_keys (fun i σ H5 => ∃ (c5 : Nat) (v8 v10 v11 : Option V) (kvs : List (Key × V)), σ = [some (.ref p), some (.ref m), some (.ref qa), some (.ref gv), some (.ref qs), v5, v6, v7, v8, v9, v10, v11] ∧ H5 qs = some (.dK kvs) ∧ ((i = 0 ∧ kvs = []) ∨ (0 < i ∧ ∃ z, kvs = [((Sum.inr "q" : Key), V.ref z)] ∧ Zed H5 p q z)) ∧
        GB H5 p q gv M M.S r2 t2 Ls ∧ c5 ≤ c3 + i ∧ Str8 p q c5 H5 ∧ SB p q (upd H qa (.frz od2 (.dK [(Sum.inr "q", .ref tq)]))) H5)
        ⟨c3, v8, none, none, [], rfl, by rw [upd_ne nsq]; exact gqs4, .inl ⟨rfl, rfl⟩, G4L, Nat.le_refl _, S84.put nqp.1 nqp.2, sb4.locked⟩ (fun i σ H5 _ ⟨_, _, _, _, _, _, _, _, _, _, _, sb⟩ => sb _ _ upd_same nqp.1 nqp.2) ?_ ?_
      · rintro i x σ H5 H6 hi ⟨c5, v8, v10, v11, kvs, rfl, gqs5, hkv5, G5, hc5, S85, sb5⟩ ⟨rfl, kk, vv, hkv, rfl⟩
        have hi0 : i = 0 := by have : i < 1 := hi; omega
        subst hi0
        have e := Option.some.inj (show some ((Sum.inr "q" : Key), V.ref tq) = some (kk, vv) from hkv)
        obtain ⟨rfl, rfl⟩ := Prod.mk.inj e
        have hin : valV [((Sum.inr "q" : Key), V.ref tq)] (Sum.inr "q" : Key) = some (.ref tq) := valV_pos rfl
        have hq5 := sb5 _ _ upd_same nqp.1 nqp.2
        have htq5 := sb5 tq _ (by rw [upd_ne (ne_of htq hqa (by intro z; cases z))]; exact htq) ntp.1 ntp.2
        have he05 := sb5 e0 _ (by rw [upd_ne (ne_of he0 hqa (by intro z; cases z))]; exact he0) nep.1 nep.2
        refine ⟨_, rfl, _, rfl, qa, _, rfl, .inl ⟨_, Sum.inr "q", .inr ⟨od2, hq5⟩, rfl, hin.symm⟩, tq, _, rfl, SqT.of htq5, rfl, _, _, rfl, _, _, rfl, rfl, ?_⟩
        refine ⟨_, rfl, _, rfl, e0, _, rfl, .inr (SqT.of he05), fun nl hnl => ⟨_, rfl, sz_le (by show 2 ≤ 1000; decide), fun pl hpl => ?_⟩⟩
        have tN := same_upd (o := .lst []) hnl
        have tP := same_upd2 (o := .lst [.ref nl, .ref e0]) tN (Same.free tN hpl)
        have nnl := S85.nnew hnl
        have npl := S85.nnew (Same.free tN hpl)
        have gnl : (upd (upd H6 nl (.lst [])) pl (.lst [.ref nl, .ref e0])) nl = some (.lst []) := by rw [upd_ne (ne_of_none upd_same hpl)]; exact upd_same
        refine ⟨p, q, pl, c5, [.ref nl, .ref e0], rfl, S85.same tP, by omega, SqL.of upd_same, npl.1, npl.2, by show 0 < 2; decide, by show 2 < 1000; decide, fun i2 v H7 hv S87 sb7 => ?_⟩
        obtain ⟨z, rfl, hz⟩ : ∃ z, v = .ref z ∧ Zed H7 p q z := by
          match i2, hv with
          | 0, hv => exact ⟨nl, (Option.some.inj hv).symm, .inl (sb7 _ _ gnl nnl.1 nnl.2), nnl⟩
          | 1, hv => exact ⟨e0, (Option.some.inj hv).symm, .inr (sb7 _ _ (tP _ _ he05) nep.1 nep.2), nep⟩
        have sb67 := (sb_of (p := p) (q := q) tP).trans sb7
        have gqs7 := sb67 _ _ gqs5 nsp.1 nsp.2
        have ek : kvs = [] := by
          rcases hkv5 with ⟨_, h⟩ | ⟨h, _⟩
          · exact h
          · exact absurd h (Nat.lt_irrefl _)
        subst ek
        refine ⟨_, rfl, _, rfl, iteDT rfl ⟨_, rfl, _, rfl, _, rfl, qs, _, rfl, DPut.k (k := Sum.inr "q") gqs7 (small1000 (by show 0 ≤ 1000; decide)), ?_⟩⟩
        have nsH : upd H qa (.frz od2 (.dK [(Sum.inr "q", .ref tq)])) qs = none := by rw [upd_ne nsq]; exact hqs0
        have zs : z ≠ qs := fun e => by
          rcases hz.1 with h | h <;> (rw [e, gqs7] at h; cases h)
        refine ⟨c5 + 1, _, _, _, _, rfl, upd_same, .inr ⟨Nat.zero_lt_one, z, rfl, hz.1.imp (fun e => by rw [upd_ne zs]; exact e) (fun e => by rw [upd_ne zs]; exact e), hz.2⟩, (G5.sb S85 sb67).other ngq nrqs (.inl gqs7), by omega, S87.put nsp.1 nsp.2, fun b o e n1 n2 => by rw [upd_ne (ne_of_none e nsH)]; exact sb67 _ _ (sb5 b o e n1 n2) n1 n2⟩
      · rintro σ H5 ⟨c5, v8, v10, v11, kvs, rfl, gqs5, hkv5, G5, hc5, S85, sb5⟩
        have hq5 := sb5 _ _ upd_same nqp.1 nqp.2
        refine ⟨hq5, ?_⟩
        obtain ⟨z, rfl, hz⟩ : ∃ z, kvs = [((Sum.inr "q" : Key), V.ref z)] ∧ Zed H5 p q z := by
          rcases hkv5 with ⟨h, _⟩ | h
          · exact absurd h (by show ¬ (1 = 0); decide)
          · exact h.2
        have hc5' : c5 ≤ c3 + 1 := hc5
        have sb6 := sb5.unlock hqa
        have G6 := G5.frz (u2 := .dK [(Sum.inr "q", .ref tq)]) hq5
        have gqs6 : (upd H5 qa (.dK [(Sum.inr "q", .ref tq)])) qs = some (.dK [((Sum.inr "q" : Key), V.ref z)]) := by rw [upd_ne nsq]; exact gqs5
        have S86 := S85.put (o := .dK [(Sum.inr "q", .ref tq)]) nqp.1 nqp.2
        have hz6 : (upd H5 qa (.dK [(Sum.inr "q", .ref tq)])) z = some (.lst []) ∨ (upd H5 qa (.dK [(Sum.inr "q", .ref tq)])) z = some (.tup []) :=
          hz.1.imp (fun e => by rw [upd_ne (ne_of e hq5 (by intro z; cases z))]; exact e) (fun e => by rw [upd_ne (ne_of e hq5 (by intro z; cases z))]; exact e)
        generalize upd H5 qa (.dK [(Sum.inr "q", .ref tq)]) = H6 at sb6 G6 gqs6 S86 hz6
        refine ⟨_, rfl, _, rfl, fun x dx hx hdx hne => ?_⟩
        have tx : Same H6 (upd (upd H6 dx (.own x)) x (.ins C dx [])) := fun b o e => by rw [upd_ne (ne_of_none e hx), upd_ne (ne_of_none e hdx)]; exact e
        refine ⟨x, dx, gv, qs, z, M, r2, t2, Ls, rfl, upd_same, tx _ _ G6.top, (G6.same tx).mvg, ok, tx _ _ gqs6, hz6.imp (tx _ _) (tx _ _), fun H' hB hbut => ⟨rfl, ?_⟩⟩
        have sbx : Same H6 H' := fun b o e => hbut _ _ (tx _ _ e) (ne_of_none e hx)
        exact k x c5 H' hB (by have := ok.sf; omega) (S86.same sbx) (sb6.trans (sb_of sbx))
end
end K45
end
section
set_option maxRecDepth 100000
set_option maxHeartbeats 4000000
namespace K45
open PySem PySem.Spec L2
section
variable {P : Program} {w : World} {K : PySem.W.Frag} {mg : Str → Option Value} {base : Heap} {C : Addr}
def spBare (C : Addr) : Sp := fun vs H Q _ => ∃ (p q m : Addr) (c : Nat) (M : Mch) (r : Str → Addr) (t : Str → Str → Addr), vs = [.ref p, .ref m] ∧ Str8 p q c H ∧ c + 900 ≤ 1000000 ∧ Mv0 H m M r t ∧ M.Ok ∧
  ∀ (b : Addr) (c' : Nat) (H' : Hp), BoxAt C H' b M → c' ≤ c + 200 → Str8 p q c' H' → SB p q H H' → Q (.ref b) H'
abbrev sc_law_b_bare_st : Stmt := top 51
abbrev sc_law_b_bare_N : List Str := ["_law_stream", "_law_moves"]
theorem sc_law_b_bare : FnScope sc_law_b_bare_N ["_law_stream", "_law_moves"] (C8.fnScope sc_law_b_bare_st) := C8.fnScope_by (by decide +kernel)
theorem c_law_b_bare (T : Txt K mg) (c_law_b_box : Call1 P w K mg base 7 "_law_b_box" (spBBox C)) (D : Dfn K mg "_law_b_bare" sc_law_b_bare_st ["_law_stream", "_law_moves"]) : Call1 P w K mg base 8 "_law_b_bare" (spBare C) := by
  refine D.cal sc_law_b_bare (fun vs H Q E h => ?_) (fun f cdv A outer s H vs Q E hr h => ?_)
  · obtain ⟨p, q, m, c, M, r, t, rfl, _⟩ := h
    rfl
  · obtain ⟨p, q, m, c, M, r, t, rfl, S8, hc, mv, ok, k⟩ := h
    have hu := hu_of hr
    refine ⟨_, (pss_one (ps_ret (C8.pe_c c_law_b_box hr (by decide) (by rfl) (pa_cons (pv 0) (pa_cons (pv 1) (pa_cons (pe_disp (pps_cons pe_str (pe_tup (pa_cons (pe_tup pa_nil) (pa_cons pe_non pa_nil))) pps_nil) (by rfl) (by rfl) (fun z => by cases z) (by decide)) pa_nil)))))), ?_⟩
    refine ⟨_, rfl, _, rfl, fun qa hqa => ?_⟩
    have t1 := same_upd (o := .dK []) hqa
    refine ⟨sz_le (by show 0 ≤ 1000; decide), fun e0 he0 => ⟨sz_le (by show 2 ≤ 1000; decide), fun tq htq => ?_⟩⟩
    have t2 := same_upd (o := .tup []) he0
    have t3 := same_upd (o := .tup [.ref e0, .non]) htq
    have gqa : (upd H qa (.dK [])) qa = some (.dK []) := upd_same
    have ge0 : (upd (upd H qa (.dK [])) e0 (.tup [])) e0 = some (.tup []) := upd_same
    have gtq : (upd (upd (upd H qa (.dK [])) e0 (.tup [])) tq (.tup [.ref e0, .non])) tq = some (.tup [.ref e0, .non]) := upd_same
    have g3 := t3 _ _ (t2 _ _ gqa)
    have ge3 := t3 _ _ ge0
    have s03 := Same.tr t1 (Same.tr t2 t3)
    generalize upd (upd (upd H qa (.dK [])) e0 (.tup [])) tq (.tup [.ref e0, .non]) = H3 at g3 ge3 gtq s03
    refine ⟨g3, [((Sum.inr "q" : Key), V.ref tq)], rfl, by show 1 ≤ 15; decide, ?_⟩
    have em : mergeK [] [((Sum.inr "q" : Key), V.ref tq)] = [((Sum.inr "q" : Key), V.ref tq)] := rfl
    rw [em]
    have s04 : Same H (upd H3 qa (.dK [((Sum.inr "q" : Key), V.ref tq)])) := fun b o e => by rw [upd_ne (ne_of_none e hqa)]; exact s03 _ _ e
    refine ⟨p, q, m, qa, tq, e0, c, M, r, t, rfl, S8.same s04, hc, mv.same s04, ok, upd_same, ?_, ?_, fun b c' H' hB hc' S8' sb' => k b c' H' hB hc' S8' ((sb_of s04).trans sb')⟩
    · rw [upd_ne (ne_of gtq g3 (by intro z; cases z))]; exact gtq
    · rw [upd_ne (ne_of ge3 g3 (by intro z; cases z))]; exact ge3
def spStart (K : PySem.W.Frag) : Sp := fun vs H Q _ => ∃ (a : Addr) (ns : List Int), vs = [.ref a] ∧ SqL K H a (ns.map V.int) ∧ ∀ (p q : Addr) (H' : Hp), Str8 p q 0 H' → Same H H' → Q (.ref p) H'
abbrev sc_law_start_st : Stmt := top 52
abbrev sc_law_start_N : List Str := ["_law_script"]
theorem sc_law_start : FnScope sc_law_start_N ["_law_script"] (C8.fnScope sc_law_start_st) := C8.fnScope_by (by decide +kernel)
theorem c_law_start (T : Txt K mg) (D : Dfn K mg "_law_start" sc_law_start_st ["_law_script"]) : Call1 P w K mg base 1 "_law_start" (spStart K) := by
  refine D.cal sc_law_start (fun vs H Q E h => ?_) (fun f cdv A outer s H vs Q E hr h => ?_)
  · obtain ⟨a, ns, rfl, _⟩ := h
    rfl
  · obtain ⟨a, ns, rfl, hS, k⟩ := h
    refine ⟨_, (pss_one (ps_ret (pe_lst (pa_cons (pe_callTy (listK K) (by rfl) T.n_list (by decide +kernel) (pa_cons (pv 0) pa_nil)) (pa_cons pe_int (pa_cons pe_int (pa_cons pe_int pa_nil))))))), ?_⟩
    refine ⟨_, rfl, a, _, rfl, .inl hS, fun q hq => ⟨sz_le (by show 4 ≤ 1000; decide), fun p hp => ?_⟩⟩
    have t1 := same_upd (o := .lst (ns.map V.int)) hq
    have gq : (upd H q (.lst (ns.map V.int))) q = some (.lst (ns.map V.int)) := upd_same
    have hne : p ≠ q := (ne_of_none gq hp).symm
    refine k p q _ ⟨⟨ns, 0, 11, upd_same, by rw [upd_ne hne.symm]; exact gq, by decide, by decide, by decide⟩, hne, by decide⟩ (same_upd2 t1 (Same.free t1 hp))
/-! ## the law's equality -/
def Same0 (x y : V) : Prop := x = y ∧ (x = .non ∨ (∃ s, x = .str s) ∨ ∃ b, x = .bl b)
def SameV : Nat → Hp → V → V → Prop
  | 0, _, x, y => Same0 x y
  | n + 1, H, x, y => Same0 x y ∨ ∃ (a b : Addr) (xs ys : List V), x = .ref a ∧ y = .ref b ∧ H a = some (.lst xs) ∧ H b = some (.lst ys) ∧ xs.length = ys.length ∧ xs.length < 1000 ∧ ∀ (i : Nat) (u v : V), xs[i]? = some u → ys[i]? = some v → SameV n H u v
theorem SameV.same : ∀ (n : Nat) {H H' : Hp} {x y : V}, SameV n H x y → Same H H' → SameV n H' x y
  | 0, _, _, _, _, h, _ => h
  | n + 1, _, _, _, _, h, s => h.elim .inl fun ⟨a, b, xs, ys, h1, h2, h3, h4, h5, h6, h7⟩ => .inr ⟨a, b, xs, ys, h1, h2, s _ _ h3, s _ _ h4, h5, h6, fun i u v hu hv => SameV.same n (h7 i u v hu hv) s⟩
def spSame (n : Nat) : Sp := fun vs H Q _ => ∃ x y : V, vs = [x, y] ∧ SameV n H x y ∧ ∀ H', Same H H' → Q (.bl true) H'
abbrev sc_law_same_st : Stmt := top 56
abbrev sc_law_same_N : List Str := ["_law_found", "_law_due", "_law_x", "_law_y"]
theorem sc_law_same : FnScope sc_law_same_N ["_law_found", "_law_due"] (C8.fnScope sc_law_same_st) := C8.fnScope_by (by decide +kernel)
theorem c_law_same0 (T : Txt K mg) (D : Dfn K mg "_law_same" sc_law_same_st ["_law_found", "_law_due"]) : Call1 P w K mg base 1 "_law_same" (spSame 0) := by
  refine D.cal sc_law_same (fun vs H Q E h => ?_) (fun f cdv A outer s H vs Q E hr h => ?_)
  · obtain ⟨x, y, rfl, _⟩ := h
    rfl
  · obtain ⟨x, y, rfl, ⟨rfl, hx⟩, k⟩ := h
    refine ⟨_, (pss_cons (ps_if (pt_val (pe_callB (isiTK K) (by rfl) T.n_isinstance (by decide +kernel) (pa_cons (pv 1) (pa_cons (pe_tup (pa_cons (pe_bltn (v := .ty "list") (u := .type "list") (by rfl) T.n_list (by decide +kernel) rfl) (pa_cons (pe_bltn (v := .ty "tuple") (u := .type "tuple") (by rfl) T.n_tuple (by decide +kernel) rfl) pa_nil))) pa_nil)))) (pss_cons (ps_if (PW.pt (pw_or (pt_cmpR op_ne (pe_callB (isiK K) (by rfl) T.n_isinstance (by decide +kernel) (pa_cons (pv 0) (pa_cons (pe_bltn (v := .ty "list") (u := .type "list") (by rfl) T.n_list (by decide +kernel) rfl) pa_nil))) (pe_callB (isiK K) (by rfl) T.n_isinstance (by decide +kernel) (pa_cons (pv 1) (pa_cons (pe_bltn (v := .ty "list") (u := .type "list") (by rfl) T.n_list (by decide +kernel) rfl) pa_nil))) (nomark _)) (pw_or1 (pt_cmpR op_ne (pe_callB (isiK K) (by rfl) T.n_isinstance (by decide +kernel) (pa_cons (pv 0) (pa_cons (pe_bltn (v := .ty "tuple") (u := .type "tuple") (by rfl) T.n_tuple (by decide +kernel) rfl) pa_nil))) (pe_callB (isiK K) (by rfl) T.n_isinstance (by decide +kernel) (pa_cons (pv 1) (pa_cons (pe_bltn (v := .ty "tuple") (u := .type "tuple") (by rfl) T.n_tuple (by decide +kernel) rfl) pa_nil))) (nomark _))))) (pss_one (ps_ret pe_bl))
       pss_nil)
      pss_never)
     pss_nil)
    (pss_cons (ps_if (pt_val (pe_callB (isiK K) (by rfl) T.n_isinstance (by decide +kernel) (pa_cons (pv 1) (pa_cons (pe_bltn (v := .ty "int") (u := .type "int") (by rfl) T.n_int (by decide +kernel) rfl) pa_nil)))) (pss_one (ps_ret (pe_and (pe_callB (isiK K) (by rfl) T.n_isinstance (by decide +kernel) (pa_cons (pv 0) (pa_cons (pe_bltn (v := .ty "int") (u := .type "int") (by rfl) T.n_int (by decide +kernel) rfl) pa_nil))) (pe_and (pe_cmpR op_eq (pe_callB (isiK K) (by rfl) T.n_isinstance (by decide +kernel) (pa_cons (pv 0) (pa_cons (pe_bltn (v := .ty "bool") (u := .type "bool") (by rfl) T.n_bool (by decide +kernel) rfl) pa_nil))) (pe_callB (isiK K) (by rfl) T.n_isinstance (by decide +kernel) (pa_cons (pv 1) (pa_cons (pe_bltn (v := .ty "bool") (u := .type "bool") (by rfl) T.n_bool (by decide +kernel) rfl) pa_nil))) (nomark _)) (pe_one (pe_cmpR op_eq (pv 0) (pv 1) (nomark _)))))))
     pss_nil)
    (pss_one (ps_ret (pe_and (pe_cmpR op_is_bl (pe_callB (isiTK K) (by rfl) T.n_isinstance (by decide +kernel) (pa_cons (pv 0) (pa_cons (pe_tup (pa_cons (pe_bltn (v := .ty "int") (u := .type "int") (by rfl) T.n_int (by decide +kernel) rfl) (pa_cons (pe_bltn (v := .ty "list") (u := .type "list") (by rfl) T.n_list (by decide +kernel) rfl) (pa_cons (pe_bltn (v := .ty "tuple") (u := .type "tuple") (by rfl) T.n_tuple (by decide +kernel) rfl) pa_nil)))) pa_nil))) pe_bl (nomark _)) (pe_one (pe_cmpR op_eq (pv 0) (pv 1) (nomark _)))))))), ?_⟩
    refine ⟨_, rfl, sz_le (by show 2 ≤ 1000; decide), fun tp htp => ?_⟩
    have t1 := same_upd (o := .tup [.ty "list", .ty "tuple"]) htp
    rcases hx with rfl | ⟨z, rfl⟩ | ⟨b, rfl⟩
    · refine ⟨.non, tp, _, .type "NoneType", [.type "list", .type "tuple"], false, rfl, upd_same, .cons (.ty _) (.cons (.ty _) .nil), .base .non, rfl, _, rfl, iteF ?_⟩
      refine ⟨_, rfl, .non, .ty "int", .type "NoneType", .type "int", false, rfl, .ty _, .base .non, rfl, _, rfl, iteF ?_⟩
      refine ⟨_, rfl, sz_le (by show 3 ≤ 1000; decide), fun t2 ht2 => ⟨.non, t2, _, .type "NoneType", [.type "int", .type "list", .type "tuple"], false, rfl, upd_same, .cons (.ty _) (.cons (.ty _) (.cons (.ty _) .nil)), .base .non, rfl, false, false, rfl, rfl, _, rfl, iteDT rfl ⟨_, rfl, _, rfl, rfl, ?_⟩⟩⟩
      have ed : decide (V.non = V.non) = true := decide_eq_true rfl
      rw [ed]
      exact k _ (same_upd2 t1 (Same.free t1 ht2))
    · refine ⟨.str z, tp, _, .type "str", [.type "list", .type "tuple"], false, rfl, upd_same, .cons (.ty _) (.cons (.ty _) .nil), .base (.str z), rfl, _, rfl, iteF ?_⟩
      refine ⟨_, rfl, .str z, .ty "int", .type "str", .type "int", false, rfl, .ty _, .base (.str z), rfl, _, rfl, iteF ?_⟩
      refine ⟨_, rfl, sz_le (by show 3 ≤ 1000; decide), fun t2 ht2 => ⟨.str z, t2, _, .type "str", [.type "int", .type "list", .type "tuple"], false, rfl, upd_same, .cons (.ty _) (.cons (.ty _) (.cons (.ty _) .nil)), .base (.str z), rfl, false, false, rfl, rfl, _, rfl, iteDT rfl ⟨_, rfl, _, rfl, rfl, ?_⟩⟩⟩
      have ed : decide (V.str z = V.str z) = true := decide_eq_true rfl
      rw [ed]
      exact k _ (same_upd2 t1 (Same.free t1 ht2))
    · refine ⟨.bl b, tp, _, .type "bool", [.type "list", .type "tuple"], false, rfl, upd_same, .cons (.ty _) (.cons (.ty _) .nil), .base (.bl b), rfl, _, rfl, iteF ?_⟩
      refine ⟨_, rfl, .bl b, .ty "int", .type "bool", .type "int", true, rfl, .ty _, .base (.bl b), rfl, _, rfl, iteT ?_⟩
      refine ⟨_, rfl, .bl b, .ty "int", .type "bool", .type "int", true, rfl, .ty _, .base (.bl b), rfl, _, rfl, iteT ?_⟩
      refine ⟨_, rfl, .bl b, .ty "bool", .type "bool", .type "bool", true, rfl, .ty _, .base (.bl b), rfl, ?_⟩
      refine ⟨_, rfl, .bl b, .ty "bool", .type "bool", .type "bool", true, rfl, .ty _, .base (.bl b), rfl, rfl, _, rfl, iteDT rfl ?_⟩
      refine ⟨_, rfl, _, rfl, rfl, ?_⟩
      have ed : decide (V.bl b = V.bl b) = true := decide_eq_true rfl
      rw [ed]
      exact k _ t1
theorem c_law_sameS {n : Nat} (T : Txt K mg) (c_law_same : Call1 P w K mg base (n + 1) "_law_same" (spSame n)) (D : Dfn K mg "_law_same" sc_law_same_st ["_law_found", "_law_due"]) : Call1 P w K mg base (n + 2) "_law_same" (spSame (n + 1)) := by
  refine D.cal sc_law_same (fun vs H Q E h => ?_) (fun f cdv A outer s H vs Q E hr h => ?_)
  · obtain ⟨x, y, rfl, _⟩ := h
    rfl
  · obtain ⟨x, y, rfl, hxy, k⟩ := h
    refine ⟨_, (pss_cons (ps_if (pt_val (pe_callB (isiTK K) (by rfl) T.n_isinstance (by decide +kernel) (pa_cons (pv 1) (pa_cons (pe_tup (pa_cons (pe_bltn (v := .ty "list") (u := .type "list") (by rfl) T.n_list (by decide +kernel) rfl) (pa_cons (pe_bltn (v := .ty "tuple") (u := .type "tuple") (by rfl) T.n_tuple (by decide +kernel) rfl) pa_nil))) pa_nil)))) (pss_cons (ps_if (PW.pt (pw_or (pt_cmpR op_ne (pe_callB (isiK K) (by rfl) T.n_isinstance (by decide +kernel) (pa_cons (pv 0) (pa_cons (pe_bltn (v := .ty "list") (u := .type "list") (by rfl) T.n_list (by decide +kernel) rfl) pa_nil))) (pe_callB (isiK K) (by rfl) T.n_isinstance (by decide +kernel) (pa_cons (pv 1) (pa_cons (pe_bltn (v := .ty "list") (u := .type "list") (by rfl) T.n_list (by decide +kernel) rfl) pa_nil))) (nomark _)) (pw_or1 (pt_cmpR op_ne (pe_callB (isiK K) (by rfl) T.n_isinstance (by decide +kernel) (pa_cons (pv 0) (pa_cons (pe_bltn (v := .ty "tuple") (u := .type "tuple") (by rfl) T.n_tuple (by decide +kernel) rfl) pa_nil))) (pe_callB (isiK K) (by rfl) T.n_isinstance (by decide +kernel) (pa_cons (pv 1) (pa_cons (pe_bltn (v := .ty "tuple") (u := .type "tuple") (by rfl) T.n_tuple (by decide +kernel) rfl) pa_nil))) (nomark _))))) (pss_one (ps_ret pe_bl))
       pss_nil)
      (pss_one (ps_ret (pe_and (pe_cmpR op_eq (pe_callB (lenK K) (by rfl) T.n_len (by decide +kernel) (pa_cons (pv 0) pa_nil)) (pe_callB (lenK K) (by rfl) T.n_len (by decide +kernel) (pa_cons (pv 1) pa_nil)) (nomark _)) (pe_one (pe_callB (allK K rfl) (by rfl) T.n_all (by decide +kernel) (pa_cons (pe_lc (own := [("_law_x", 2), ("_law_y", 3)]) (tt := tYes) rfl sc_law_same.nd (zipI K (by rfl) T.n_zip (pa_cons (pv 0) (pa_cons (pv 1) pa_nil))) (blkOk_by (N := sc_law_same_N) (sc := C8.fnScope sc_law_same_st) (by decide +kernel)) (fun _ _ _ _ _ => (tupG K (n := 2) rfl (pgs_cons (pg_name (i := 2) sc_law_same.nd rfl (by first | exact Or.inl rfl | exact Or.inr rfl)) (pgs_cons (pg_name (i := 3) sc_law_same.nd rfl (by first | exact Or.inl rfl | exact Or.inr rfl)) pgs_nil)))) (fun _ _ _ _ _ => pts_nil) (fun _ _ _ _ _ => (C8.pe_c c_law_same hr (Nat.le_refl _) (by rfl) (pa_cons (pv 2) (pa_cons (pv 3) pa_nil))))) pa_nil)))))))
     pss_nil)
    (pss_cons (ps_if (pt_val (pe_callB (isiK K) (by rfl) T.n_isinstance (by decide +kernel) (pa_cons (pv 1) (pa_cons (pe_bltn (v := .ty "int") (u := .type "int") (by rfl) T.n_int (by decide +kernel) rfl) pa_nil)))) (pss_one (ps_ret (pe_and (pe_callB (isiK K) (by rfl) T.n_isinstance (by decide +kernel) (pa_cons (pv 0) (pa_cons (pe_bltn (v := .ty "int") (u := .type "int") (by rfl) T.n_int (by decide +kernel) rfl) pa_nil))) (pe_and (pe_cmpR op_eq (pe_callB (isiK K) (by rfl) T.n_isinstance (by decide +kernel) (pa_cons (pv 0) (pa_cons (pe_bltn (v := .ty "bool") (u := .type "bool") (by rfl) T.n_bool (by decide +kernel) rfl) pa_nil))) (pe_callB (isiK K) (by rfl) T.n_isinstance (by decide +kernel) (pa_cons (pv 1) (pa_cons (pe_bltn (v := .ty "bool") (u := .type "bool") (by rfl) T.n_bool (by decide +kernel) rfl) pa_nil))) (nomark _)) (pe_one (pe_cmpR op_eq (pv 0) (pv 1) (nomark _)))))))
     pss_nil)
    (pss_one (ps_ret (pe_and (pe_cmpR op_is_bl (pe_callB (isiTK K) (by rfl) T.n_isinstance (by decide +kernel) (pa_cons (pv 0) (pa_cons (pe_tup (pa_cons (pe_bltn (v := .ty "int") (u := .type "int") (by rfl) T.n_int (by decide +kernel) rfl) (pa_cons (pe_bltn (v := .ty "list") (u := .type "list") (by rfl) T.n_list (by decide +kernel) rfl) (pa_cons (pe_bltn (v := .ty "tuple") (u := .type "tuple") (by rfl) T.n_tuple (by decide +kernel) rfl) pa_nil)))) pa_nil))) pe_bl (nomark _)) (pe_one (pe_cmpR op_eq (pv 0) (pv 1) (nomark _)))))))), ?_⟩
    refine ⟨_, rfl, sz_le (by show 2 ≤ 1000; decide), fun tp htp => ?_⟩
    have t1 := same_upd (o := .tup [.ty "list", .ty "tuple"]) htp
    rcases hxy with ⟨rfl, hx⟩ | ⟨a, b, xs, ys, rfl, rfl, ha, hb, hl, h1000, hall⟩
    · rcases hx with rfl | ⟨z, rfl⟩ | ⟨b, rfl⟩
      · refine ⟨.non, tp, _, .type "NoneType", [.type "list", .type "tuple"], false, rfl, upd_same, .cons (.ty _) (.cons (.ty _) .nil), .base .non, rfl, _, rfl, iteF ?_⟩
        refine ⟨_, rfl, .non, .ty "int", .type "NoneType", .type "int", false, rfl, .ty _, .base .non, rfl, _, rfl, iteF ?_⟩
        refine ⟨_, rfl, sz_le (by show 3 ≤ 1000; decide), fun t2 ht2 => ⟨.non, t2, _, .type "NoneType", [.type "int", .type "list", .type "tuple"], false, rfl, upd_same, .cons (.ty _) (.cons (.ty _) (.cons (.ty _) .nil)), .base .non, rfl, false, false, rfl, rfl, _, rfl, iteDT rfl ⟨_, rfl, _, rfl, rfl, ?_⟩⟩⟩
        have ed : decide (V.non = V.non) = true := decide_eq_true rfl
        rw [ed]
        exact k _ (same_upd2 t1 (Same.free t1 ht2))
      · refine ⟨.str z, tp, _, .type "str", [.type "list", .type "tuple"], false, rfl, upd_same, .cons (.ty _) (.cons (.ty _) .nil), .base (.str z), rfl, _, rfl, iteF ?_⟩
        refine ⟨_, rfl, .str z, .ty "int", .type "str", .type "int", false, rfl, .ty _, .base (.str z), rfl, _, rfl, iteF ?_⟩
        refine ⟨_, rfl, sz_le (by show 3 ≤ 1000; decide), fun t2 ht2 => ⟨.str z, t2, _, .type "str", [.type "int", .type "list", .type "tuple"], false, rfl, upd_same, .cons (.ty _) (.cons (.ty _) (.cons (.ty _) .nil)), .base (.str z), rfl, false, false, rfl, rfl, _, rfl, iteDT rfl ⟨_, rfl, _, rfl, rfl, ?_⟩⟩⟩
        have ed : decide (V.str z = V.str z) = true := decide_eq_true rfl
        rw [ed]
        exact k _ (same_upd2 t1 (Same.free t1 ht2))
      · refine ⟨.bl b, tp, _, .type "bool", [.type "list", .type "tuple"], false, rfl, upd_same, .cons (.ty _) (.cons (.ty _) .nil), .base (.bl b), rfl, _, rfl, iteF ?_⟩
        refine ⟨_, rfl, .bl b, .ty "int", .type "bool", .type "int", true, rfl, .ty _, .base (.bl b), rfl, _, rfl, iteT ?_⟩
        refine ⟨_, rfl, .bl b, .ty "int", .type "bool", .type "int", true, rfl, .ty _, .base (.bl b), rfl, _, rfl, iteT ?_⟩
        refine ⟨_, rfl, .bl b, .ty "bool", .type "bool", .type "bool", true, rfl, .ty _, .base (.bl b), rfl, ?_⟩
        refine ⟨_, rfl, .bl b, .ty "bool", .type "bool", .type "bool", true, rfl, .ty _, .base (.bl b), rfl, rfl, _, rfl, iteDT rfl ?_⟩
        refine ⟨_, rfl, _, rfl, rfl, ?_⟩
        have ed : decide (V.bl b = V.bl b) = true := decide_eq_true rfl
        rw [ed]
        exact k _ t1
    · refine ⟨.ref b, tp, _, .type "list", [.type "list", .type "tuple"], true, rfl, upd_same, .cons (.ty _) (.cons (.ty _) .nil), .base (.lst (t1 _ _ hb)), rfl, _, rfl, iteT ?_⟩
      have ha1 := t1 _ _ ha
      have hb1 := t1 _ _ hb
      refine ⟨_, rfl, .ref a, .ty "list", .type "list", .type "list", true, rfl, .ty _, .base (.lst ha1), rfl, ?_⟩
      refine ⟨_, rfl, .ref b, .ty "list", .type "list", .type "list", true, rfl, .ty _, .base (.lst hb1), rfl, rfl, _, rfl, iteF ?_⟩
      refine ⟨_, rfl, .ref a, .ty "tuple", .type "list", .type "tuple", false, rfl, .ty _, .base (.lst ha1), rfl, ?_⟩
      refine ⟨_, rfl, .ref b, .ty "tuple", .type "list", .type "tuple", false, rfl, .ty _, .base (.lst hb1), rfl, rfl, _, rfl, iteF ?_⟩
      refine ⟨_, rfl, .ref a, xs.length, rfl, .inl ⟨_, SqL.of ha1, rfl⟩, _, rfl, .ref b, ys.length, rfl, .inl ⟨_, SqL.of hb1, rfl⟩, rfl, _, rfl, iteDT (by rw [hl]) ?_⟩
      refine ⟨_, rfl, _, rfl, a, b, xs, ys, rfl, .inl ⟨SqL.of ha1, SqL.of hb1, fun Dn hD => ?_⟩⟩
      refine lc_it (walk_zip (K := K) (a := a) (b := b) (xs := xs) (ys := ys) (n := xs.length) (by omega)) (fun j H2 => H2 Dn = some (.lst ((List.replicate j true).map V.bl)) ∧ Same (upd H tp (.tup [.ty "list", .ty "tuple"])) H2) ⟨upd_same, same_upd hD⟩ (fun j H2 _ h => ⟨SqL.of (h.2 _ _ ha1), SqL.of (h.2 _ _ hb1)⟩) ?_ ?_
      · rintro j v H2 H3 hj ⟨gD, sm⟩ ⟨Tp, x1, y1, rfl, hT, rfl, e1, e2⟩
        have tT := same_upd (o := .tup [x1, y1]) hT
        have s3 := Same.tr t1 (Same.tr sm tT)
        refine ⟨_, _, rfl, SqT.of upd_same, rfl, _, _, rfl, _, _, rfl, rfl, rfl, _, rfl, _, rfl, x1, y1, rfl, (hall j x1 y1 e1 e2).same n s3, fun H4 sm4 => ⟨_, sm4 _ _ (tT _ _ gD), small1000 ?_, ?_, fun z o e => by rw [upd_ne (ne_of_none e hD)]; exact sm4 _ _ (tT _ _ (sm _ _ e))⟩⟩
        · rw [List.length_map, List.length_replicate]; omega
        · rw [upd_same, List.replicate_succ', List.map_append]; rfl
      · rintro H2 ⟨gD, sm⟩
        exact ⟨Dn, _, rfl, SqL.of gD, by rw [all_trues]; exact k _ (Same.tr t1 sm)⟩
def spLKeep (K : PySem.W.Frag) : Sp := fun vs H Q _ => ∃ (m q : Addr) (M : Mch) (r : Str → Addr) (t : Str → Str → Addr) (ps : List Pr), vs = [.ref m, .ref q] ∧ Mv0 H m M r t ∧ M.Ok ∧ PrsAt H q ps ∧ ps ≠ [] ∧ ps.length ≤ 64 ∧ (∀ p ∈ ps, p.1 ∈ M.S ∧ p.2 ∈ M.S ∧ p.1 ≠ p.2) ∧ Clo M.L M.d ps ∧ ∀ H', Same H H' → Q (.bl true) H'
abbrev sc_law_is_keep_st : Stmt := top 60
abbrev sc_law_is_keep_N : List Str := ["_law_moves", "_law_thing", "_law_one", "_law_other", "_law_letter", "_law_pair", "_law_some"]
theorem sc_law_is_keep : FnScope sc_law_is_keep_N ["_law_moves", "_law_thing"] (C8.fnScope sc_law_is_keep_st) := C8.fnScope_by (by decide +kernel)
theorem c_law_is_keep (T : Txt K mg) (c_law_b_letters : Call1 P w K mg base 1 "_law_b_letters" spLets) (D : Dfn K mg "_law_is_keep" sc_law_is_keep_st ["_law_moves", "_law_thing"]) : Call1 P w K mg base 2 "_law_is_keep" (spLKeep K) := by
  refine D.cal sc_law_is_keep (fun vs H Q E h => ?_) (fun f cdv A outer s H vs Q E hr h => ?_)
  · obtain ⟨m, q, M, r, t, ps, rfl, _⟩ := h
    rfl
  · obtain ⟨m, q, M, r, t, ps, rfl, mv, ok, hq, hne, h64, hps, hcl, k⟩ := h
    have hu := hu_of hr
    obtain ⟨cs, gq, pd⟩ := hq
    refine ⟨_, (pss_cons (ps_for PassesOwn.never rfl (listI K (pv 1)) (tupG K (n := 2) rfl (pgs_cons (pg_name (i := 2) sc_law_is_keep.nd rfl (by first | exact Or.inl rfl | exact Or.inr rfl)) (pgs_cons (pg_name (i := 3) sc_law_is_keep.nd rfl (by first | exact Or.inl rfl | exact Or.inr rfl)) pgs_nil)))
     (pss_one (ps_for PassesOwn.never rfl (listI K (C8.pe_c c_law_b_letters hr (by decide) (by rfl) (pa_cons (pv 0) pa_nil))) (pg_name (i := 4) sc_law_is_keep.nd rfl (by first | exact Or.inl rfl | exact Or.inr rfl))
       (pss_cons (ps_set (i := 5) sc_law_is_keep.nd rfl (by first | exact Or.inl rfl | exact Or.inr rfl) (pe_lst (pa_cons (pe_ix (ix_tupK K) (pe_dget hu (pe_dget hu (pv 0) (pv 2) (fun _ _ => rfl)) (pv 4) (fun _ _ => rfl)) pe_int (fun _ _ => rfl)) (pa_cons (pe_ix (ix_tupK K) (pe_dget hu (pe_dget hu (pv 0) (pv 3) (fun _ _ => rfl)) (pv 4) (fun _ _ => rfl)) pe_int (fun _ _ => rfl)) pa_nil))))
        (pss_one (ps_if (PW.pt (pw_or (pt_cmpR op_eq (pe_ix (ix_listK K) (pv 5) pe_int (fun _ _ => rfl)) (pe_ix (ix_listK K) (pv 5) pe_int (fun _ _ => rfl)) (nomark _)) (pw_or1 (pt_not (pt_val (pe_callB (anyK K rfl) (by rfl) T.n_any (by decide +kernel) (pa_cons (pe_lc (own := [("_law_some", 6)]) (g := (gName 6)) (tt := tYes) rfl sc_law_is_keep.nd (listI K (pv 1)) (blkOk_by (N := sc_law_is_keep_N) (sc := C8.fnScope sc_law_is_keep_st) (by decide +kernel)) (fun _ _ _ _ _ => (pg_name (i := 6) sc_law_is_keep.nd rfl (by first | exact Or.inl rfl | exact Or.inr rfl))) (fun _ _ _ _ _ => pts_nil) (fun _ _ _ _ _ => (pe_cmpR (eqDK K hr.units) (pe_callB (sortedSK K) (by rfl) T.n_sorted (by decide +kernel) (pa_cons (pe_callTy (listK K) (by rfl) T.n_list (by decide +kernel) (pa_cons (pv 6) pa_nil)) pa_nil)) (pe_callB (sortedSK K) (by rfl) T.n_sorted (by decide +kernel) (pa_cons (pv 5) pa_nil)) (nomark _)))) pa_nil))))))) (pss_one (ps_ret pe_bl))
         pss_nil))))))
    (pss_one (ps_ret (pe_and (pe_cmpR op_gt (pe_callB (lenK K) (by rfl) T.n_len (by decide +kernel) (pa_cons (pv 1) pa_nil)) pe_int (nomark _)) (pe_one (pe_callB (allK K rfl) (by rfl) T.n_all (by decide +kernel) (pa_cons (pe_lc (own := [("_law_one", 2), ("_law_other", 3)]) (tt := tYes) rfl sc_law_is_keep.nd (listI K (pv 1)) (blkOk_by (N := sc_law_is_keep_N) (sc := C8.fnScope sc_law_is_keep_st) (by decide +kernel)) (fun _ _ _ _ _ => (tupG K (n := 2) rfl (pgs_cons (pg_name (i := 2) sc_law_is_keep.nd rfl (by first | exact Or.inl rfl | exact Or.inr rfl)) (pgs_cons (pg_name (i := 3) sc_law_is_keep.nd rfl (by first | exact Or.inl rfl | exact Or.inr rfl)) pgs_nil)))) (fun _ _ _ _ _ => pts_nil) (fun _ _ _ _ _ => (pe_cmpR op_ne (pv 2) (pv 3) (nomark _)))) pa_nil))))))), ?_⟩
    have hcl1 : cs.length = ps.length := paired_len pd
    refine ⟨_, rfl, q, rfl, ⟨_, SqL.of gq⟩, ?_⟩
    refine for_list (K := K) (a := q) (xs := cs.map V.ref) (fun i σ H1 => ∃ v2 v3 v4 v5 : Option V, σ = [some (.ref m), some (.ref q), v2, v3, v4, v5, none] ∧ Same H H1) ⟨none, none, none, none, rfl, fun _ _ e => e⟩ (fun i σ H1 _ ⟨_, _, _, _, _, s⟩ => SqL.of (s _ _ gq)) ?_ ?_
    · rintro i x σ H1 hi ⟨v2, v3, v4, v5, rfl, sm1⟩
      obtain ⟨ca, hca, rfl⟩ := refs_get hi
      obtain ⟨p, hp, hpr⟩ := paired_get pd hca
      have hpm := List.mem_of_getElem? hp
      have hpp := hps p hpm
      have mv1 := mv.same sm1
      refine ⟨ca, _, rfl, SqT.of (sm1 _ _ hpr), rfl, _, _, rfl, _, _, rfl, rfl, ?_⟩
      refine ⟨_, rfl, m, M, rfl, mv1.at, ok, fun ll H2 hll gll sm2 => ⟨ll, rfl, ⟨_, SqL.of gll⟩, ?_⟩⟩
      refine for_list (K := K) (a := ll) (xs := M.L.map V.str) (fun j σ H3 => ∃ v4 v5 : Option V, σ = [some (.ref m), some (.ref q), some (.str p.1), some (.str p.2), v4, v5, none] ∧ Same H2 H3) ⟨v4, v5, rfl, fun _ _ e => e⟩ (fun i σ H3 _ ⟨_, _, _, s⟩ => SqL.of (s _ _ gll)) ?_ ?_
      · rintro j x σ H3 hj ⟨v4, v5, rfl, sm3⟩
        obtain ⟨a, ha, rfl⟩ := str_at hj
        have haL := List.mem_of_getElem? ha
        have s03 := Same.tr sm1 (Same.tr sm2 sm3)
        have mv3 := mv.same s03
        have d1S := ok.st _ hpp.1 a haL
        have d2S := ok.st _ hpp.2.1 a haL
        have hin := inP_iff.mp (hcl p hpm a haL)
        have dne : M.d p.1 a ≠ M.d p.2 a := by
          rcases hin with h | h
          · exact (hps _ h).2.2
          · exact fun e => (hps _ h).2.2 e.symm
        refine ⟨_, rfl, _, rfl, m, _, rfl, .inl ⟨_, Sum.inr p.1, .inl mv3.top, rfl, (tab_in hpp.1).symm⟩, _, rfl, r p.1, _, rfl, .inl ⟨_, Sum.inr a, .inl (mv3.row _ hpp.1), rfl, (tab_in haL).symm⟩, t p.1 a, _, 1, _, rfl, rfl, SqT.of (mv3.cel _ hpp.1 a haL), rfl,
          _, rfl, _, rfl, m, _, rfl, .inl ⟨_, Sum.inr p.2, .inl mv3.top, rfl, (tab_in hpp.2.1).symm⟩, _, rfl, r p.2, _, rfl, .inl ⟨_, Sum.inr a, .inl (mv3.row _ hpp.2.1), rfl, (tab_in haL).symm⟩, t p.2 a, _, 1, _, rfl, rfl, SqT.of (mv3.cel _ hpp.2.1 a haL), rfl, sz_le (by show 2 ≤ 1000; decide), fun pr hpr0 => ?_⟩
        have tp := same_upd (o := .lst [.str (M.d p.1 a), .str (M.d p.2 a)]) hpr0
        have gpr : (upd H3 pr (.lst [.str (M.d p.1 a), .str (M.d p.2 a)])) pr = some (.lst [.str (M.d p.1 a), .str (M.d p.2 a)]) := upd_same
        generalize upd H3 pr (.lst [.str (M.d p.1 a), .str (M.d p.2 a)]) = H4 at tp gpr
        refine ⟨_, rfl, pr, _, 0, _, rfl, rfl, SqL.of gpr, rfl, _, rfl, pr, _, 1, _, rfl, rfl, SqL.of gpr, rfl, rfl, _, rfl, iteDF (fun e => dne (by injection e)) ?_⟩
        have s04 := Same.tr s03 tp
        refine ⟨_, rfl, q, rfl, ⟨_, SqL.of (s04 _ _ gq)⟩, fun Dn hD => ?_⟩
        refine lc_list (K := K) (a := q) (xs := cs.map V.ref) (fun j H5 => ∃ bs : List Bool, H5 Dn = some (.lst (bs.map V.bl)) ∧ bs.length = j ∧ ((∃ z ∈ ps.take j, z = (M.d p.1 a, M.d p.2 a) ∨ z = (M.d p.2 a, M.d p.1 a)) → true ∈ bs) ∧ Same H4 H5) ⟨[], upd_same, rfl, fun ⟨z, hz, _⟩ => absurd hz (by simp), same_upd hD⟩ (fun i H5 _ ⟨_, _, _, _, s⟩ => SqL.of (s _ _ (s04 _ _ gq))) ?_ ?_
        · rintro j2 x H5 hj2 ⟨bs, gD, hbl, hbs, sm5⟩
          obtain ⟨c2, hc2, rfl⟩ := refs_get hj2
          obtain ⟨z, hz, hzr⟩ := paired_get pd hc2
          have hzz := hps z (List.mem_of_getElem? hz)
          have s05 := Same.tr s04 sm5
          refine ⟨rfl, _, rfl, c2, _, rfl, .inr (SqT.of (s05 _ _ hzr)), fun l1 hl1 => ⟨l1, [z.1, z.2], rfl, SqL.of upd_same, by show 2 < 64; decide, fun ys1 q1 pm1 srt1 hq1 => ?_⟩⟩
          have u1 := same_upd (o := .lst [.str z.1, .str z.2]) hl1
          have u2 := same_upd2 (o := .lst (ys1.map V.str)) u1 (Same.free u1 hq1)
          have gq1 : (upd (upd H5 l1 (.lst [.str z.1, .str z.2])) q1 (.lst (ys1.map V.str))) q1 = some (.lst (ys1.map V.str)) := upd_same
          refine ⟨_, rfl, pr, [M.d p.1 a, M.d p.2 a], rfl, SqL.of (u2 _ _ (sm5 _ _ gpr)), by show 2 < 64; decide, fun ys2 q2 pm2 srt2 hq2 => ?_⟩
          have u3 := same_upd2 (o := .lst (ys2.map V.str)) u2 (Same.free u2 hq2)
          have gq2 : (upd (upd (upd H5 l1 (.lst [.str z.1, .str z.2])) q1 (.lst (ys1.map V.str))) q2 (.lst (ys2.map V.str))) q1 = some (.lst (ys1.map V.str)) := by rw [upd_ne (ne_of_none gq1 hq2)]; exact gq1
          have n1 : Nms ys1 := fun x hx => by
            have := pm1.mem_iff.mp hx
            simp at this
            rcases this with rfl | rfl
            · exact ok.sm _ hzz.1
            · exact ok.sm _ hzz.2.1
          have n2 : Nms ys2 := fun x hx => by
            have := pm2.mem_iff.mp hx
            simp at this
            rcases this with rfl | rfl
            · exact ok.sm _ d1S
            · exact ok.sm _ d2S
          refine ⟨dRow ys1, dRow ys2, dp_row (SqL.of gq2), dp_row (SqL.of upd_same), (lay_row n1.oks).shaped (by decide), (lay_row n2.oks).shaped (by decide), _, u3 _ _ gD, small1000 (by rw [List.length_map, hbl]; have := (List.getElem?_eq_some_iff.mp hc2).1; omega), bs ++ [decide (ys1 = ys2)], ?_, by rw [List.length_append, hbl]; rfl, ?_, fun y o e => by rw [upd_ne (ne_of_none e hD)]; exact u3 _ _ (sm5 _ _ e)⟩
          · rw [upd_same, eqv_row, List.map_append]; rfl
          · rintro ⟨w2, hw2, hm⟩
            rw [take_snoc hz, List.mem_append, List.mem_singleton] at hw2
            rcases hw2 with hw2 | rfl
            · exact List.mem_append.mpr (.inl (hbs ⟨w2, hw2, hm⟩))
            · refine List.mem_append.mpr (.inr ?_)
              have nd1 : ys1.Nodup := pm1.nodup_iff.mpr (by simp; exact hzz.2.2)
              have nd2 : ys2.Nodup := pm2.nodup_iff.mpr (by simp; exact dne)
              have e : ys1 = ys2 := by
                refine up_ext sltb_ord (sorted_up srt1 nd1) (sorted_up srt2 nd2) fun x => ?_
                rw [pm1.mem_iff, pm2.mem_iff]
                rcases hm with rfl | rfl
                · exact Iff.rfl
                · simp [or_comm]
              rw [decide_eq_true e]
              exact List.mem_singleton.mpr rfl
        · rintro H5 ⟨bs, gD, hbl, hbs, sm5⟩
          rw [List.length_map, hcl1, List.take_length] at hbs
          have ht : true ∈ bs := by
            rcases hin with h | h
            · exact hbs ⟨_, h, .inl rfl⟩
            · exact hbs ⟨_, h, .inr rfl⟩
          have ea : bs.any id = true := List.any_eq_true.mpr ⟨true, ht, rfl⟩
          refine ⟨Dn, bs, rfl, SqL.of gD, ?_⟩
          rw [ea]
          exact ⟨_, rfl, iteF ⟨_, _, rfl, Same.tr sm3 (Same.tr tp sm5)⟩⟩
      · rintro σ H3 ⟨v4, v5, rfl, sm3⟩
        exact ⟨_, _, _, _, rfl, Same.tr sm1 (Same.tr sm2 sm3)⟩
    · rintro σ H1 ⟨v2, v3, v4, v5, rfl, sm1⟩
      have gq1 := sm1 _ _ gq
      have hlen : 0 < ps.length := List.length_pos_iff.mpr hne
      refine ⟨_, rfl, .ref q, ps.length, rfl, .inl ⟨_, SqL.of gq1, by rw [List.length_map, hcl1]⟩, ps.length, 0, rfl, rfl, _, rfl, iteDT (by omega) ?_⟩
      refine ⟨_, rfl, q, rfl, ⟨_, SqL.of gq1⟩, fun Dn hD => ?_⟩
      refine lc_list (K := K) (a := q) (xs := cs.map V.ref) (fun j H2 => H2 Dn = some (.lst ((List.replicate j true).map V.bl)) ∧ Same H1 H2) ⟨upd_same, same_upd hD⟩ (fun i H2 _ h => SqL.of (h.2 _ _ gq1)) ?_ ?_
      · rintro j x H2 hj ⟨gD, sm2⟩
        obtain ⟨ca, hca, rfl⟩ := refs_get hj
        obtain ⟨p, hp, hpr⟩ := paired_get pd hca
        have hpp := hps p (List.mem_of_getElem? hp)
        refine ⟨ca, _, rfl, SqT.of (sm2 _ _ (sm1 _ _ hpr)), rfl, _, _, rfl, _, _, rfl, rfl, rfl, _, rfl, _, rfl, rfl, _, gD, small1000 ?_, ?_, fun z o e => by rw [upd_ne (ne_of_none e hD)]; exact sm2 _ _ e⟩
        · rw [List.length_map, List.length_replicate]
          have := (List.getElem?_eq_some_iff.mp hca).1
          omega
        · rw [upd_same, List.replicate_succ', List.map_append, decide_eq_false (show ¬ V.str p.1 = V.str p.2 from fun e => hpp.2.2 (by injection e))]; rfl
      · rintro H2 ⟨gD, sm2⟩
        exact ⟨Dn, _, rfl, SqL.of gD, by rw [all_trues]; exact k _ (Same.tr sm1 sm2)⟩
end
end K45
end
section
set_option maxRecDepth 100000
set_option maxHeartbeats 4000000
/-! the machine whose shortest reset row has (n - 1) ^ 2 letters -/
namespace K45
open PySem PySem.Spec L2
def dI (n k i : Nat) : Nat := if i = 0 then (if k + 1 < n then k + 1 else 0) else (if k + 1 = n then 0 else k)
def img (n m i : Nat) : Nat := (List.range n).foldl (fun r k => if m.testBit k = true then r ||| 2 ^ dI n k i else r) 0
def runI (n k : Nat) (x : List Nat) : Nat := x.foldl (dI n) k
def maskOf (n : Nat) (x : List Nat) : Nat := x.foldl (img n) (2 ^ n - 1)
/-- how many letters a set of states asks at least -/
def tabR (n : Nat) : List Nat := match n with
  | 2 => [1000, 1, 2, 0]
  | 3 => [1000, 4, 5, 1, 6, 3, 2, 0]
  | 4 => [1000, 9, 10, 5, 11, 4, 6, 1, 12, 8, 5, 4, 7, 3, 2, 0]
  | 5 => [1000, 16, 17, 11, 18, 7, 12, 6, 19, 10, 8, 5, 13, 4, 7, 1, 20, 15, 11, 10, 9, 6, 6, 5, 14, 9, 5, 4, 8, 3, 2, 0]
  | 6 => [1000, 25, 26, 19, 27, 14, 20, 13, 28, 12, 15, 8, 21, 8, 14, 7, 29, 18, 13, 12, 16, 7, 9, 6, 22, 11, 9, 5, 15, 4, 8, 1, 30, 24, 19, 18, 14, 13, 13, 12, 17, 11, 8, 7, 10, 7, 7, 6, 23, 17, 12, 11, 10, 6, 6, 5, 16, 10, 5, 4, 9, 3, 2, 0]
  | 7 => [1000, 36, 37, 29, 38, 23, 30, 22, 39, 17, 24, 16, 31, 16, 23, 15, 40, 21, 18, 14, 25, 10, 17, 9, 32, 13, 17, 9, 24, 9, 16, 8, 41, 28, 22, 21, 19, 15, 15, 14, 26, 13, 11, 8, 18, 8, 10, 7, 33, 20, 14, 13, 18, 7, 10, 6, 25, 12, 10, 5, 17, 4, 9, 1, 42, 35, 29, 28, 23, 22, 22, 21, 20, 16, 16, 15, 16, 15, 15, 14, 27, 20, 14, 13, 12, 9, 9, 8, 19, 12, 9, 8, 11, 8, 8, 7, 34, 27, 21, 20, 15, 14, 14, 13, 19, 12, 8, 7, 11, 7, 7, 6, 26, 19, 13, 12, 11, 6, 6, 5, 18, 11, 5, 4, 10, 3, 2, 0]
  | 8 => [1000, 49, 50, 41, 51, 34, 42, 33, 52, 27, 35, 26, 43, 26, 34, 25, 53, 24, 28, 19, 36, 19, 27, 18, 44, 19, 27, 18, 35, 18, 26, 17, 54, 32, 25, 24, 29, 17, 20, 16, 37, 15, 20, 11, 28, 11, 19, 10, 45, 23, 20, 15, 28, 11, 19, 10, 36, 14, 19, 10, 27, 10, 18, 9, 55, 40, 33, 32, 26, 25, 25, 24, 30, 18, 18, 17, 21, 17, 17, 16, 38, 23, 16, 15, 21, 10, 12, 9, 29, 14, 12, 9, 20, 9, 11, 8, 46, 31, 24, 23, 21, 16, 16, 15, 29, 14, 12, 8, 20, 8, 11, 7, 37, 22, 15, 14, 20, 7, 11, 6, 28, 13, 11, 5, 19, 4, 10, 1, 56, 48, 41, 40, 34, 33, 33, 32, 27, 26, 26, 25, 26, 25, 25, 24, 31, 23, 19, 18, 19, 18, 18, 17, 22, 18, 18, 17, 18, 17, 17, 16, 39, 31, 24, 23, 17, 16, 16, 15, 22, 14, 11, 10, 13, 10, 10, 9, 30, 22, 15, 14, 13, 10, 10, 9, 21, 13, 10, 9, 12, 9, 9, 8, 47, 39, 32, 31, 25, 24, 24, 23, 22, 17, 17, 16, 17, 16, 16, 15, 30, 22, 15, 14, 13, 9, 9, 8, 21, 13, 9, 8, 12, 8, 8, 7, 38, 30, 23, 22, 16, 15, 15, 14, 21, 13, 8, 7, 12, 7, 7, 6, 29, 21, 14, 13, 12, 6, 6, 5, 20, 12, 5, 4, 11, 3, 2, 0]
  | _ => []
def chkR (n : Nat) : Bool := ((List.range (2 ^ n)).all fun m => (List.range 2).all fun i => decide ((tabR n).getD (img n m i) 0 ≤ (tabR n).getD m 0 + 1) && decide (img n m i < 2 ^ n)) && decide ((tabR n).getD (2 ^ n - 1) 0 = 0) && (List.range n).all fun t => decide ((n - 1) ^ 2 ≤ (tabR n).getD (2 ^ t) 0)
def wordR (n : Nat) : List Nat := (List.replicate (n - 2) (1 :: List.replicate (n - 1) 0)).flatten ++ [1]
def chkW (n : Nat) : Bool := ((List.range n).all fun k => runI n k (wordR n) == 0) && (wordR n).all (fun i => decide (i < 2)) && decide ((wordR n).length = (n - 1) ^ 2)
theorem chk_all : ((List.range 7).all fun j => chkR (j + 2) && chkW (j + 2)) = true := by decide +kernel
theorem chk_n {n : Nat} (h1 : 2 ≤ n) (h2 : n ≤ 8) : chkR n = true ∧ chkW n = true := by
  have := List.all_eq_true.mp chk_all (n - 2) (List.mem_range.mpr (by omega))
  rw [show n - 2 + 2 = n by omega, Bool.and_eq_true] at this
  exact this
theorem dI_lt {n k i : Nat} (h : k < n) : dI n k i < n := by
  unfold dI
  split <;> split <;> omega
theorem runI_lt {n : Nat} : ∀ (x : List Nat) {k : Nat}, k < n → runI n k x < n
  | [], _, h => h
  | i :: x, k, h => runI_lt x (k := dI n k i) (dI_lt h)
theorem img_bit (n m i j : Nat) : (img n m i).testBit j = (List.range n).any fun k => m.testBit k && (dI n k i == j) := by
  have aux : ∀ (l : List Nat) (r : Nat), (l.foldl (fun r k => if m.testBit k = true then r ||| 2 ^ dI n k i else r) r).testBit j = (r.testBit j || l.any fun k => m.testBit k && (dI n k i == j)) := by
    intro l
    induction l with
    | nil => intro r; simp
    | cons k l ih =>
      intro r
      rw [List.foldl_cons, ih, List.any_cons]
      by_cases h : m.testBit k = true
      · rw [if_pos h, Nat.testBit_or, Nat.testBit_two_pow, h, Bool.true_and, Bool.or_assoc]
        rfl
      · have h' : m.testBit k = false := by simpa using h
        rw [if_neg h, h', Bool.false_and, Bool.false_or]
  have := aux (List.range n) 0
  simpa [img] using this
theorem runI_snoc (n k : Nat) (u : List Nat) (i : Nat) : runI n k (u ++ [i]) = dI n (runI n k u) i := by simp [runI, List.foldl_append]
theorem mask_bit (n : Nat) : ∀ (c : Nat) (x : List Nat), x.length = c → ∀ j, (maskOf n x).testBit j = true ↔ ∃ k, k < n ∧ runI n k x = j := by
  intro c
  induction c with
  | zero =>
    intro x hx j
    have := List.length_eq_zero_iff.mp hx
    subst this
    show (2 ^ n - 1).testBit j = true ↔ ∃ k, k < n ∧ k = j
    rw [Nat.testBit_two_pow_sub_one, decide_eq_true_eq]
    exact ⟨fun h => ⟨j, h, rfl⟩, fun ⟨k, h, e⟩ => e ▸ h⟩
  | succ c ih =>
    intro x hx j
    rcases snoc_or x with rfl | ⟨u, i, rfl⟩
    · simp at hx
    · have hu : u.length = c := by simpa using hx
      have e : maskOf n (u ++ [i]) = img n (maskOf n u) i := by simp [maskOf, List.foldl_append]
      rw [e, img_bit, List.any_eq_true]
      constructor
      · rintro ⟨k, hk, h⟩
        rw [Bool.and_eq_true] at h
        obtain ⟨k0, h0, e0⟩ := (ih u hu k).mp h.1
        exact ⟨k0, h0, by rw [runI_snoc, e0]; exact beq_iff_eq.mp h.2⟩
      · rintro ⟨k0, h0, e0⟩
        rw [runI_snoc] at e0
        refine ⟨runI n k0 u, List.mem_range.mpr (runI_lt u h0), ?_⟩
        rw [Bool.and_eq_true]
        exact ⟨(ih u hu _).mpr ⟨k0, h0, rfl⟩, beq_iff_eq.mpr e0⟩
theorem rank_le {n : Nat} (hc : chkR n = true) : ∀ (c : Nat) (x : List Nat), x.length = c → Lets 2 x → (tabR n).getD (maskOf n x) 0 ≤ x.length ∧ maskOf n x < 2 ^ n := by
  unfold chkR at hc
  simp only [Bool.and_eq_true, List.all_eq_true, decide_eq_true_eq] at hc
  obtain ⟨⟨h1, h2⟩, _⟩ := hc
  intro c
  induction c with
  | zero =>
    intro x hx _
    have := List.length_eq_zero_iff.mp hx
    subst this
    refine ⟨Nat.le_of_eq h2, ?_⟩
    show 2 ^ n - 1 < 2 ^ n
    have := Nat.two_pow_pos n
    omega
  | succ c ih =>
    intro x hx hl
    rcases snoc_or x with rfl | ⟨u, i, rfl⟩
    · simp at hx
    · have hu : u.length = c := by simpa using hx
      have hl' := lets_snoc.mp hl
      obtain ⟨a1, a2⟩ := ih u hu hl'.1
      have e : maskOf n (u ++ [i]) = img n (maskOf n u) i := by simp [maskOf, List.foldl_append]
      have := h1 _ (List.mem_range.mpr a2) i (List.mem_range.mpr hl'.2)
      rw [e, List.length_append]
      refine ⟨?_, this.2⟩
      have h3 := this.1
      simp only [List.length_cons, List.length_nil]
      omega
theorem long_low {n : Nat} (h1 : 2 ≤ n) (h2 : n ≤ 8) {x : List Nat} (hl : Lets 2 x) {t : Nat} (h : ∀ k, k < n → runI n k x = t) : (n - 1) ^ 2 ≤ x.length := by
  have hc := (chk_n h1 h2).1
  obtain ⟨a1, a2⟩ := rank_le hc x.length x rfl hl
  have ht : t < n := by rw [← h 0 (by omega)]; exact runI_lt x (by omega)
  have e : maskOf n x = 2 ^ t := by
    refine Nat.eq_of_testBit_eq fun j => ?_
    rw [Nat.testBit_two_pow, Bool.eq_iff_iff, mask_bit n x.length x rfl j, decide_eq_true_eq]
    exact ⟨fun ⟨k, hk, e⟩ => by rw [← e]; exact (h k hk).symm, fun e => ⟨0, by omega, by rw [h 0 (by omega)]; exact e⟩⟩
  unfold chkR at hc
  simp only [Bool.and_eq_true, List.all_eq_true, decide_eq_true_eq] at hc
  have h3 := hc.2 t (List.mem_range.mpr ht)
  rw [e] at a1
  exact Nat.le_trans h3 a1
/-! the machine with its names -/
def lab : List Str := ["a", "b"]
def nms (n : Nat) : List Str := nths "s" n
def ixL (a : Str) : Nat := if a = "b" then 1 else 0
def cer (n : Nat) : Mch := ⟨nms n, lab, fun _ _ => "o", fun s a => nth "s" (dI n ((nms n).idxOf s) (ixL a))⟩
theorem ab_ne : ¬ ("a" : Str) = "b" := by decide +kernel
theorem nms_len (n : Nat) : (nms n).length = n := by simp [nms, nths]
theorem nms_get {n k : Nat} (h : k < n) : (nms n)[k]? = some (nth "s" k) := by
  unfold nms nths
  rw [List.getElem?_map, List.getElem?_range h]
  rfl
theorem nms_ix {n k : Nat} (hn : n ≤ 8) (h : k < n) : (nms n).idxOf (nth "s" k) = k := by
  have nd : (nms n).Nodup := nths_nodup (by omega)
  have hm : nth "s" k ∈ nms n := List.mem_of_getElem? (nms_get h)
  have h1 : (nms n).idxOf (nth "s" k) < (nms n).length := List.idxOf_lt_length_of_mem hm
  have h2 : (nms n)[(nms n).idxOf (nth "s" k)] = nth "s" k := List.getElem_idxOf h1
  obtain ⟨h3, h4⟩ := List.getElem?_eq_some_iff.mp (nms_get h)
  exact (List.getElem_inj (h₀ := h1) (h₁ := h3) nd).mp (h2.trans h4.symm)
theorem nms_mem {n : Nat} {s : Str} : s ∈ nms n ↔ ∃ k, k < n ∧ s = nth "s" k := by
  unfold nms nths
  rw [List.mem_map]
  exact ⟨fun ⟨k, hk, e⟩ => ⟨k, List.mem_range.mp hk, e.symm⟩, fun ⟨k, hk, e⟩ => ⟨k, List.mem_range.mpr hk, e.symm⟩⟩
theorem s_text : (("s" : Str)).cps.toList = [115] := by decide +kernel
theorem nm_a : Nm "a" := by
  show NmB "a" = true
  decide +kernel
theorem nm_b : Nm "b" := by
  show NmB "b" = true
  decide +kernel
theorem nm_o : Nm "o" := by
  show NmB "o" = true
  decide +kernel
theorem cer_d {n k i : Nat} (hn : n ≤ 8) (h : k < n) (hi : i < 2) : (cer n).d (nth "s" k) (lab.getD i zz) = nth "s" (dI n k i) := by
  show nth "s" (dI n ((nms n).idxOf (nth "s" k)) (ixL (lab.getD i zz))) = _
  rw [nms_ix hn h]
  congr 2
  match i, hi with
  | 0, _ => show (if ("a" : Str) = "b" then 1 else 0) = 0; rw [if_neg ab_ne]
  | 1, _ => show (if ("b" : Str) = "b" then 1 else 0) = 1; rw [if_pos rfl]
theorem cer_run {n : Nat} (hn : n ≤ 8) : ∀ (x : List Nat) {k : Nat}, k < n → Lets 2 x → runw (cer n).d (nth "s" k) (lets lab zz x) = nth "s" (runI n k x)
  | [], _, _, _ => rfl
  | i :: x, k, h, hl => by
    have hi : i < 2 := hl i (by simp)
    have := cer_run hn x (k := dI n k i) (dI_lt h) fun y hy => hl y (by simp [hy])
    show runw (cer n).d ((cer n).d (nth "s" k) (lab.getD i zz)) (lets lab zz x) = _
    rw [cer_d hn h hi, this]
    rfl
theorem cer_res {n : Nat} (h1 : 2 ≤ n) (hn : n ≤ 8) {x : List Nat} (hl : Lets 2 x) : Res (cer n).S (cer n).d (lets lab zz x) ↔ ∃ t, ∀ k, k < n → runI n k x = t := by
  constructor
  · rintro ⟨z, hz⟩
    refine ⟨runI n 0 x, fun k hk => ?_⟩
    have e1 := hz _ (nms_mem.mpr ⟨k, hk, rfl⟩)
    have e2 := hz _ (nms_mem.mpr ⟨0, by omega, rfl⟩)
    rw [cer_run hn x hk hl] at e1
    rw [cer_run hn x (by omega) hl] at e2
    have a1 := runI_lt x hk
    have a2 := runI_lt (n := n) x (k := 0) (by omega)
    exact nth_inj (by omega) (by omega) (e1.trans e2.symm)
  · rintro ⟨t, ht⟩
    refine ⟨nth "s" t, fun s hs => ?_⟩
    obtain ⟨k, hk, rfl⟩ := nms_mem.mp hs
    rw [cer_run hn x hk hl, ht k hk]
theorem cer_ok {n : Nat} (h1 : 2 ≤ n) (hn : n ≤ 8) : (cer n).Ok where
  s0 := fun e => by
    have := congrArg List.length e
    rw [show (cer n).S = nms n from rfl, nms_len] at this
    simp at this; omega
  sn := nths_nodup (by omega)
  sm := fun s hs => by
    obtain ⟨k, hk, rfl⟩ := nms_mem.mp hs
    exact nth_nm s_text (by decide) (by omega)
  sf := by rw [show (cer n).S = nms n from rfl, nms_len]; exact hn
  l0 := by show lab ≠ []; simp [lab]
  ln := by show lab.Nodup; simp [lab]; exact ab_ne
  lm := fun a ha => by
    have : a = "a" ∨ a = "b" := by simpa [lab] using (show a ∈ lab from ha)
    rcases this with rfl | rfl
    · exact nm_a
    · exact nm_b
  lf := by show 2 ≤ 8; decide
  st := fun s hs a ha => by
    obtain ⟨k, hk, rfl⟩ := nms_mem.mp hs
    exact nms_mem.mpr ⟨_, dI_lt (by rw [nms_ix hn hk]; exact hk), rfl⟩
  sg := fun _ _ _ _ => nm_o
theorem cer_word {n : Nat} (h1 : 2 ≤ n) (hn : n ≤ 8) : Lets 2 (wordR n) ∧ (wordR n).length = (n - 1) ^ 2 ∧ Res (cer n).S (cer n).d (lets lab zz (wordR n)) := by
  have hc := (chk_n h1 hn).2
  unfold chkW at hc
  simp only [Bool.and_eq_true, List.all_eq_true, decide_eq_true_eq] at hc
  obtain ⟨⟨a1, a2⟩, a3⟩ := hc
  have hl : Lets 2 (wordR n) := fun x hx => a2 x hx
  exact ⟨hl, a3, (cer_res h1 hn hl).mpr ⟨0, fun k hk => beq_iff_eq.mp (a1 k (List.mem_range.mpr hk))⟩⟩
theorem cer_len {n : Nat} (h1 : 2 ≤ n) (hn : n ≤ 8) {x : List Nat} (h : Fst (cer n) x) : x.length = (n - 1) ^ 2 := by
  obtain ⟨w1, w2, w3⟩ := cer_word h1 hn
  have hx : Lets 2 x := h.1
  have a1 : code 2 x ≤ code 2 (wordR n) := h.2.2 _ w1 w3
  have a2 := len_of_code (by decide : 0 < 2) w1 a1
  obtain ⟨t, ht⟩ := (cer_res h1 hn hx).mp h.2.1
  have a3 := long_low h1 hn hx ht
  omega
theorem cer_no {n : Nat} (h1 : 2 ≤ n) (hn : n ≤ 8) : ¬ NoRes (cer n) := fun h => by
  obtain ⟨w1, w2, w3⟩ := cer_word h1 hn
  exact h _ w1 w3
theorem keep_nil {M : Mch} (ok : M.Ok) (h : ¬ NoRes M) : keepF M.S M.L M.d = [] := by
  refine Classical.byContradiction fun e => h fun x hx r => ?_
  exact keep_some ok.sn e _ (lets_in hx) r
end K45
end
section
set_option maxRecDepth 100000
set_option maxHeartbeats 4000000
namespace K45
open PySem PySem.Spec L2
/-- the long machine's moves as they grow -/
structure GM (H : Hp) (mv : Addr) (n : Nat) (Ts : List Str) (r : Str → Addr) (t : Str → Str → Addr) : Prop where
  top : H mv = some (.dK (tab Ts fun s => .ref (r s)))
  row : ∀ s ∈ Ts, r s ≠ mv ∧ H (r s) = some (.dK (tab lab fun a => .ref (t s a)))
  cel : ∀ s ∈ Ts, ∀ a ∈ lab, H (t s a) = some (.tup [.str "o", .str ((cer n).d s a)])
theorem GM.same {H H' : Hp} {mv : Addr} {n : Nat} {Ts : List Str} {r : Str → Addr} {t : Str → Str → Addr} (G : GM H mv n Ts r t) (s : Same H H') : GM H' mv n Ts r t :=
  ⟨s _ _ G.top, fun x hx => ⟨(G.row x hx).1, s _ _ (G.row x hx).2⟩, fun x hx a ha => s _ _ (G.cel x hx a ha)⟩
theorem GM.more {H : Hp} {mv rw c1 c2 : Addr} {n i : Nat} {s : Str} {r : Str → Addr} {t : Str → Str → Addr} (hn : n ≤ 8) (G : GM H mv n ((nms n).take i) r t) (hs : (nms n)[i]? = some s) (hne : rw ≠ mv)
    (hr : H rw = some (.dK (tab lab fun a => .ref (if a = "b" then c2 else c1)))) (h1 : H c1 = some (.tup [.str "o", .str ((cer n).d s "a")])) (h2 : H c2 = some (.tup [.str "o", .str ((cer n).d s "b")])) :
    GM (upd H mv (.dK (putK (tab ((nms n).take i) fun s => .ref (r s)) (Sum.inr s : Key) (.ref rw)))) mv n ((nms n).take (i + 1)) (fun z => if z = s then rw else r z) (fun z a => if z = s then (if a = "b" then c2 else c1) else t z a) := by
  have nd : (nms n).Nodup := nths_nodup (by omega)
  have ns := nodup_take nd hs
  have kt : ∀ c xs, H c = some (.tup xs) → (upd H mv (.dK (putK (tab ((nms n).take i) fun s => .ref (r s)) (Sum.inr s : Key) (.ref rw)))) c = some (.tup xs) := fun c xs e => by
    rw [upd_ne (ne_of e G.top (by intro z; cases z))]; exact e
  have mem : ∀ z ∈ (nms n).take (i + 1), z = s ∨ (z ≠ s ∧ z ∈ (nms n).take i) := fun z hz => by
    rw [take_snoc hs, List.mem_append, List.mem_singleton] at hz
    by_cases e : z = s
    · exact .inl e
    · exact .inr ⟨e, hz.resolve_right e⟩
  refine ⟨?_, fun z hz => ?_, fun z hz a ha => ?_⟩
  · rw [upd_same, tab_new ns, take_snoc hs]
    refine congrArg (fun l => some (HO.dK l)) (tab_congr fun b hb => ?_)
    by_cases e : b = s <;> simp [e]
  · rcases mem z hz with rfl | ⟨e, h⟩
    · simp only [if_true]
      exact ⟨hne, by rw [upd_ne hne]; exact hr⟩
    · simp only [e, if_false]
      exact ⟨(G.row z h).1, by rw [upd_ne (G.row z h).1]; exact (G.row z h).2⟩
  · rcases mem z hz with rfl | ⟨e, h⟩
    · simp only [if_true]
      have : a = "a" ∨ a = "b" := by simpa [lab] using ha
      rcases this with rfl | rfl
      · rw [if_neg ab_ne]; exact kt _ _ h1
      · rw [if_pos rfl]; exact kt _ _ h2
    · simp only [e, if_false]
      exact kt _ _ (G.cel z h a ha)
theorem tab_lab (c1 c2 : Addr) : [((Sum.inr "a" : Key), V.ref c1), ((Sum.inr "b" : Key), V.ref c2)] = tab lab fun a => .ref (if a = "b" then c2 else c1) := by
  show _ = [((Sum.inr "a" : Key), V.ref (if ("a" : Str) = "b" then c2 else c1)), ((Sum.inr "b" : Key), V.ref (if ("b" : Str) = "b" then c2 else c1))]
  rw [if_neg ab_ne, if_pos rfl]
theorem merge_lab (c1 c2 : Addr) : mergeK [] [((Sum.inr "a" : Key), V.ref c1), ((Sum.inr "b" : Key), V.ref c2)] = tab lab fun a => .ref (if a = "b" then c2 else c1) := by
  rw [tab_lab]
  exact merge_tab (by simp [lab]; exact ab_ne)
theorem cer_at {n k : Nat} (hn : n ≤ 8) (h : k < n) : (cer n).d (nth "s" k) "a" = nth "s" (dI n k 0) ∧ (cer n).d (nth "s" k) "b" = nth "s" (dI n k 1) :=
  ⟨cer_d (i := 0) hn h (by decide), cer_d (i := 1) hn h (by decide)⟩
section
variable {P : Program} {w : World} {K : PySem.W.Frag} {mg : Str → Option Value} {base : Heap} {C : Addr}
def spLong : Sp := fun vs H Q _ => ∃ (p q : Addr) (c : Nat), vs = [.ref p] ∧ Str8 p q c H ∧ c + 1 ≤ 1000000 ∧ ∀ H', Q (.bl true) H'
abbrev sc_law_long_right_st : Stmt := top 61
abbrev sc_law_long_right_N : List Str := ["_law_stream", "_law_many", "_law_states", "_law_moves", "_law_k", "_law_state", "_law_later", "_law_box", "_law_row"]
theorem sc_law_long_right : FnScope sc_law_long_right_N ["_law_stream"] (C8.fnScope sc_law_long_right_st) := C8.fnScope_by (by decide +kernel)
theorem c_law_long_right (T : Txt K mg) (c_law_draw : Call1 P w K mg base 1 "_law_draw" spDraw) (c_Box : Mak1 P w K mg base C 5 "Box" (spInit C)) (c_law_b_reset : Call1 P w K mg base 2 "_law_b_reset" spLReset) (c_law_same : Call1 P w K mg base 3 "_law_same" (spSame 2))
    (c_reset_row : Call1 P w K mg base 3 "reset_row" (spReset C)) (c_now_row : Call1 P w K mg base 4 "now_row" (spNow C)) (c_keep : Call1 P w K mg base 5 "keep" (spKeep C)) (c_blind_list : Call1 P w K mg base 5 "blind_list" (spBlind C))
    (D : Dfn K mg "_law_long_right" sc_law_long_right_st ["_law_stream"]) : Call1 P w K mg base 7 "_law_long_right" spLong := by
  refine D.cal sc_law_long_right (fun vs H Q E h => ?_) (fun f cdv A outer s H vs Q E hr h => ?_)
  · obtain ⟨p, q, c, rfl, _⟩ := h
    rfl
  · obtain ⟨p, q, c, rfl, S8, hc, k⟩ := h
    have hu := hu_of hr
    refine ⟨_, (pss_cons (ps_set (i := 1) sc_law_long_right.nd rfl (by first | exact Or.inl rfl | exact Or.inr rfl) (pe_op op_add pe_int (C8.pe_c c_law_draw hr (by decide) (by rfl) (pa_cons (pv 0) (pa_cons pe_int pa_nil)))))
    (pss_cons (ps_par (i := 2) (j := 3) (by rfl) sc_law_long_right.nd rfl rfl (by decide) rfl rfl (pa_cons (pe_lc (own := [("_law_k", 4)]) (g := (gName 4)) (tt := tYes) rfl sc_law_long_right.nd (pi_range1 (by rfl) T.n_range (pa_cons (pv 1) pa_nil)) (blkOk_by (N := sc_law_long_right_N) (sc := C8.fnScope sc_law_long_right_st) (by decide +kernel)) (fun _ _ _ _ _ => (pg_name (i := 4) sc_law_long_right.nd rfl (by first | exact Or.inl rfl | exact Or.inr rfl))) (fun _ _ _ _ _ => pts_nil) (fun _ _ _ _ _ => (pe_op op_add_str pe_str (pe_callTy call_str_int (by rfl) T.n_str (by decide +kernel) (pa_cons (pv 4) pa_nil))))) (pa_cons pe_dnewK pa_nil)) (by rfl))
    (pss_cons (ps_for PassesOwn.never rfl (enumI K (by rfl) T.n_enumerate (pa_cons (pv 2) pa_nil)) (tupG K (n := 2) rfl (pgs_cons (pg_name (i := 4) sc_law_long_right.nd rfl (by first | exact Or.inl rfl | exact Or.inr rfl)) (pgs_cons (pg_name (i := 5) sc_law_long_right.nd rfl (by first | exact Or.inl rfl | exact Or.inr rfl)) pgs_nil)))
     (C8.pss_cut (ps_set (i := 6) sc_law_long_right.nd rfl (by first | exact Or.inl rfl | exact Or.inr rfl) (pe_ifExp (pt_cmpR op_lt (pe_op op_add (pv 4) pe_int) (pv 1) (nomark _)) (pe_ix (ix_listK K) (pv 2) (pe_op op_add (pv 4) pe_int) (fun _ _ => rfl)) (pe_ix (ix_listK K) (pv 2) pe_int (fun _ _ => rfl))))
      (pss_one (ps_dput hu (pv 3) (pv 5) (pe_disp (pps_cons pe_str (pe_tup (pa_cons pe_str (pa_cons (pv 6) pa_nil))) (pps_cons pe_str (pe_tup (pa_cons pe_str (pa_cons (pe_ifExp (pt_cmpR op_eq (pe_op op_add (pv 4) pe_int) (pv 1) (nomark _)) (pe_ix (ix_listK K) (pv 2) pe_int (fun _ _ => rfl)) (pv 5)) pa_nil))) pps_nil)) (by rfl) (by rfl) (fun z => by cases z) (by decide)) rfl))))
    (pss_cons (ps_par (i := 7) (j := 8) (by rfl) sc_law_long_right.nd rfl rfl (by decide) rfl rfl (pa_cons (C8.pe_mk c_Box hr (by decide) (by rfl) (pa_cons (pv 3) (pa_cons (pe_disp (pps_cons pe_str (pe_lst pa_nil) pps_nil) (by rfl) (by rfl) (fun z => by cases z) (by decide)) pa_nil))) (pa_cons (C8.pe_c c_law_b_reset hr (by decide) (by rfl) (pa_cons (pv 3) pa_nil)) pa_nil)) (by rfl))
    (pss_cons (ps_if (PW.pt (pw_or (pt_cmpR op_ne (pe_callB (lenK K) (by rfl) T.n_len (by decide +kernel) (pa_cons (pv 8) pa_nil)) (pe_op op_pow (pe_op op_sub (pv 1) pe_int) pe_int) (nomark _)) (pw_or1 (pt_not (pt_val (C8.pe_c c_law_same hr (by decide) (by rfl) (pa_cons (pe_lst (pa_cons (C8.pe_c c_reset_row hr (by decide) (by rfl) (pa_cons (pv 7) pa_nil)) (pa_cons (C8.pe_c c_now_row hr (by decide) (by rfl) (pa_cons (pv 7) pa_nil)) pa_nil))) (pa_cons (pe_lst (pa_cons (pv 8) (pa_cons (pv 8) pa_nil))) pa_nil)))))))) (pss_one (ps_ret pe_bl))
     pss_nil)
    (pss_one (ps_ret (pe_and (pe_cmp (pc_isN (C8.pe_c c_keep hr (by decide) (by rfl) (pa_cons (pv 7) pa_nil))) rfl) (pe_one (pe_cmp (pc_isN (C8.pe_c c_blind_list hr (by decide) (by rfl) (pa_cons (pv 7) pa_nil))) rfl)))))))))), ?_⟩
    refine ⟨_, rfl, p, q, c, 7, rfl, S8, hc, by decide, by decide, fun rr H1 h0 h7 S81 sb1 => ⟨_, _, rfl, rfl, ?_⟩⟩
    obtain ⟨j, rfl⟩ : ∃ j : Nat, rr = (j : Int) := ⟨rr.toNat, by omega⟩
    obtain ⟨n, hn⟩ : ∃ n : Nat, n = 2 + j := ⟨_, rfl⟩
    have en : (2 : Int) + (j : Nat) = (n : Nat) := by omega
    show gName 1 (V.int ((2 : Int) + (j : Nat))) _ _ _
    rw [en]
    have n2 : 2 ≤ n := by omega
    have n8 : n ≤ 8 := by omega
    clear hn en
    refine ⟨_, rfl, _, rfl, by omega, by omega, fun Dn hD => ?_⟩
    refine lc_range (lo := 0) (n := n) (fun i H2 => H2 Dn = some (.lst (((nms n).take i).map V.str)) ∧ Same H1 H2) ⟨upd_same, same_upd hD⟩ ?_ ?_
    · rintro i H2 hi ⟨gD, sm2⟩
      have ei : (0 : Int) + (i : Nat) = (i : Nat) := by omega
      refine ⟨rfl, _, rfl, _, rfl, ?_, "s", _, rfl, rfl, ?_, _, gD, ?_, ?_, ?_⟩
      · have e : ((0 : Int) + (i : Nat)).natAbs = i := by omega
        rw [e]
        exact Nat.lt_of_le_of_lt (Nat.log2_le_self i) (by omega)
      · rw [ei]
        have e1 : ("s" : Str).length = 1 := by rw [len_tl, s_text]; rfl
        have e2 : (Str.ofString (toString ((i : Nat) : Int))).length = 1 := by rw [len_tl, num_tl (by omega)]; rfl
        rw [e1, e2]
        exact sz_le (by decide)
      · exact small1000 (by rw [List.length_map, List.length_take]; omega)
      · rw [upd_same, ei, take_snoc (nms_get hi), List.map_append]
        rfl
      · exact fun b o eb => by rw [upd_ne (ne_of_none eb hD)]; exact sm2 b o eb
    rintro H2 ⟨gD, sm2⟩
    have et : (nms n).take n = nms n := List.take_of_length_le (by rw [nms_len]; omega)
    rw [et] at gD
    intro mv hmv
    have t3 := same_upd (o := .dK []) hmv
    refine ⟨_, _, rfl, ?_⟩
    have gmv : (upd H2 mv (.dK [])) mv = some (.dK []) := upd_same
    have gD3 := t3 _ _ gD
    have smA : Same H2 (upd H2 mv (.dK [])) := t3
    generalize upd H2 mv (.dK []) = H3 at t3 gmv gD3 smA
    have hne : Dn ≠ mv := ne_of_none gD hmv
    refine ⟨_, rfl, Dn, _, rfl, SqL.of gD3, ?_⟩
    refine for_it walk_enum (fun i σ H4 => ∃ (r : Str → Addr) (t : Str → Str → Addr) (v4 v5 v6 : Option V), σ = [some (.ref p), some (.int (n : Nat)), some (.ref Dn), some (.ref mv), v4, v5, v6, none, none] ∧ GM H4 mv n ((nms n).take i) r t ∧ Same H2 H4)
      ⟨fun _ => 0, fun _ _ => 0, none, none, none, rfl, ⟨gmv, fun s hs => absurd hs (by simp), fun s hs => absurd hs (by simp)⟩, smA⟩ (fun i σ H4 _ ⟨_, _, _, _, _, _, _, s⟩ => SqL.of (s _ _ gD)) ?_ ?_
    · rintro i x σ H4 H5 hi ⟨r, t, v4, v5, v6, rfl, G, sm4⟩ ⟨Tp, x1, y1, rfl, hT, rfl, e1, e2⟩
      obtain rfl := Option.some.inj e1
      obtain ⟨s, hs, rfl⟩ := str_at e2
      have hin : i < n := by have := (List.getElem?_eq_some_iff.mp hs).1; rw [nms_len] at this; exact this
      have es : s = nth "s" i := Option.some.inj (hs.symm.trans (nms_get hin))
      have tT := same_upd (o := .tup [.int (i : Nat), .str s]) hT
      refine ⟨_, _, rfl, SqT.of upd_same, rfl, _, _, rfl, _, _, rfl, rfl, ?_⟩
      have G5 := G.same tT
      have s25 := Same.tr sm4 tT
      generalize upd H4 Tp (.tup [.int (i : Nat), .str s]) = H5 at G5 s25
      have gD5 := s25 _ _ gD
      have ei : (i : Int) + 1 = ((i + 1 : Nat) : Int) := by omega
      obtain ⟨da, db⟩ := cer_at n8 hin
      rw [← es] at da db
      refine ⟨fun σ' H' => σ' = [some (.ref p), some (.int (n : Nat)), some (.ref Dn), some (.ref mv), some (.int (i : Nat)), some (.str s), some (.str ((cer n).d s "a")), none, none] ∧ H' = H5, ?_, ?_⟩
      · refine ⟨_, rfl, _, _, rfl, rfl, _, rfl, _, _, rfl, rfl, _, rfl, ?_⟩
        refine ite2 (fun h => ?_) fun h => ?_
        · have h' : i + 1 < n := by have := of_decide_eq_true h; omega
          refine ⟨_, rfl, _, rfl, _, _, rfl, rfl, Dn, _, _, .str (nth "s" (i + 1)), rfl, rfl, SqL.of gD5, at_ofA (j := i + 1) ei (by rw [List.getElem?_map, nms_get h']; rfl), ?_⟩
          refine ⟨?_, rfl⟩
          rw [da]
          show _ = [_, _, _, _, _, _, some (V.str (nth "s" (if 0 = 0 then (if i + 1 < n then i + 1 else 0) else _))), _, _]
          rw [if_pos rfl, if_pos h']
          rfl
        · have h' : ¬ i + 1 < n := fun z => h (decide_eq_true (by omega))
          refine ⟨_, rfl, Dn, _, 0, .str (nth "s" 0), rfl, rfl, SqL.of gD5, at_ofA (j := 0) rfl (by rw [List.getElem?_map, nms_get (by omega)]; rfl), ?_⟩
          refine ⟨?_, rfl⟩
          rw [da]
          show _ = [_, _, _, _, _, _, some (V.str (nth "s" (if 0 = 0 then (if i + 1 < n then i + 1 else 0) else _))), _, _]
          rw [if_pos rfl, if_neg h']
          rfl
      · rintro σ' H' ⟨rfl, rfl⟩
        intro rw hrw
        have tr := same_upd (o := .dK []) hrw
        have grw : (upd H' rw (.dK [])) rw = some (.dK []) := upd_same
        refine ⟨_, rfl, sz_le (by show 2 ≤ 1000; decide), fun c1 hc1 => ?_⟩
        have t1 := same_upd (o := .tup [.str "o", .str ((cer n).d s "a")]) hc1
        have gc1 : (upd (upd H' rw (.dK [])) c1 (.tup [.str "o", .str ((cer n).d s "a")])) c1 = some (.tup [.str "o", .str ((cer n).d s "a")]) := upd_same
        have gD6 := t1 _ _ (tr _ _ gD5)
        refine ⟨_, rfl, _, _, rfl, rfl, _, rfl, rfl, _, rfl, ?_⟩
        refine ite2 (fun h => ?_) fun h => ?_
        · have h' : i + 1 = n := by have := of_decide_eq_true h; injection this with this; omega
          refine ⟨_, rfl, Dn, _, 0, .str ((cer n).d s "b"), rfl, rfl, SqL.of gD6, at_ofA (j := 0) rfl (by rw [List.getElem?_map, nms_get (by omega), db]; show _ = some (V.str (nth "s" (if 1 = 0 then _ else (if i + 1 = n then 0 else i)))); rw [if_neg (by decide), if_pos h']; rfl), ?_⟩
          refine ⟨sz_le (by show 2 ≤ 1000; decide), fun c2 hc2 => ?_⟩
          have t2 := same_upd (o := .tup [.str "o", .str ((cer n).d s "b")]) hc2
          have gc2 : (upd (upd (upd H' rw (.dK [])) c1 (.tup [.str "o", .str ((cer n).d s "a")])) c2 (.tup [.str "o", .str ((cer n).d s "b")])) c2 = some (.tup [.str "o", .str ((cer n).d s "b")]) := upd_same
          have gc12 := t2 _ _ gc1
          have grw2 := t2 _ _ (t1 _ _ grw)
          have s7 := Same.tr tr (Same.tr t1 t2)
          generalize upd (upd (upd H' rw (.dK [])) c1 (.tup [.str "o", .str ((cer n).d s "a")])) c2 (.tup [.str "o", .str ((cer n).d s "b")]) = H7 at gc2 gc12 grw2 s7
          refine ⟨grw2, [((Sum.inr "a" : Key), V.ref c1), ((Sum.inr "b" : Key), V.ref c2)], rfl, by show 2 ≤ 15; decide, ?_⟩
          rw [merge_lab]
          have kr : ∀ q o, H7 q = some o → q ≠ rw → (upd H7 rw (.dK (tab lab fun a => .ref (if a = "b" then c2 else c1)))) q = some o := fun q o e n => by rw [upd_ne n]; exact e
          have s8 : Same H' (upd H7 rw (.dK (tab lab fun a => .ref (if a = "b" then c2 else c1)))) := fun q o e => kr _ _ (s7 _ _ e) (ne_of_none e hrw)
          have G8 := G5.same s8
          have nrm : rw ≠ mv := (ne_of_none G5.top hrw).symm
          refine ⟨_, rfl, _, rfl, mv, _, rfl, DPut.k (k := Sum.inr s) G8.top (small1000 (by rw [tab_len, List.length_take]; omega)), _, _, _, _, _, rfl, G8.more n8 hs nrm upd_same (kr _ _ gc12 (ne_of gc12 grw2 (by intro z; cases z))) (kr _ _ gc2 (ne_of gc2 grw2 (by intro z; cases z))), fun q o e => ?_⟩
          have nm2 : q ≠ mv := ne_of_none e hmv
          rw [upd_ne nm2]
          exact s8 _ _ (s25 _ _ e)
        · have h' : ¬ i + 1 = n := fun z => h (decide_eq_true (show V.int ((i : Int) + 1) = V.int (n : Nat) by rw [ei, z]))
          have eb : (cer n).d s "b" = s := by
            rw [db, es]
            show nth "s" (if 1 = 0 then _ else (if i + 1 = n then 0 else i)) = _
            rw [if_neg (by decide), if_neg h']
          refine ⟨_, rfl, ?_⟩
          refine ⟨sz_le (by show 2 ≤ 1000; decide), fun c2 hc2 => ?_⟩
          have t2 := same_upd (o := .tup [.str "o", .str s]) hc2
          have gc2 : (upd (upd (upd H' rw (.dK [])) c1 (.tup [.str "o", .str ((cer n).d s "a")])) c2 (.tup [.str "o", .str s])) c2 = some (.tup [.str "o", .str s]) := upd_same
          have gc12 := t2 _ _ gc1
          have grw2 := t2 _ _ (t1 _ _ grw)
          have s7 := Same.tr tr (Same.tr t1 t2)
          generalize upd (upd (upd H' rw (.dK [])) c1 (.tup [.str "o", .str ((cer n).d s "a")])) c2 (.tup [.str "o", .str s]) = H7 at gc2 gc12 grw2 s7
          refine ⟨grw2, [((Sum.inr "a" : Key), V.ref c1), ((Sum.inr "b" : Key), V.ref c2)], rfl, by show 2 ≤ 15; decide, ?_⟩
          rw [merge_lab]
          have kr : ∀ q o, H7 q = some o → q ≠ rw → (upd H7 rw (.dK (tab lab fun a => .ref (if a = "b" then c2 else c1)))) q = some o := fun q o e n => by rw [upd_ne n]; exact e
          have s8 : Same H' (upd H7 rw (.dK (tab lab fun a => .ref (if a = "b" then c2 else c1)))) := fun q o e => kr _ _ (s7 _ _ e) (ne_of_none e hrw)
          have G8 := G5.same s8
          have nrm : rw ≠ mv := (ne_of_none G5.top hrw).symm
          refine ⟨_, rfl, _, rfl, mv, _, rfl, DPut.k (k := Sum.inr s) G8.top (small1000 (by rw [tab_len, List.length_take]; omega)), _, _, _, _, _, rfl, G8.more n8 hs nrm upd_same (kr _ _ gc12 (ne_of gc12 grw2 (by intro z; cases z))) (kr _ _ (by rw [eb]; exact gc2) (ne_of gc2 grw2 (by intro z; cases z))), fun q o e => ?_⟩
          have nm2 : q ≠ mv := ne_of_none e hmv
          rw [upd_ne nm2]
          exact s8 _ _ (s25 _ _ e)
    · rintro σ H4 ⟨r, t, v4, v5, v6, rfl, G, sm4⟩
      rw [List.length_map, nms_len, et] at G
      have ok := cer_ok n2 n8
      have nor := cer_no n2 n8
      have mv4 : Mv0 H4 mv (cer n) r t := ⟨G.top, fun s hs => (G.row s hs).2, G.cel⟩
      have one : ∃ o, ∀ s ∈ (cer n).S, ∀ a ∈ (cer n).L, (cer n).g s a = o := ⟨"o", fun _ _ _ _ => rfl⟩
      have h2S : 2 ≤ (cer n).S.length := by show 2 ≤ (nms n).length; rw [nms_len]; exact n2
      refine ⟨_, rfl, fun qd hqd => ?_⟩
      have t1 := same_upd (o := .dK []) hqd
      refine ⟨sz_le (by show 0 ≤ 1000; decide), fun zl hzl => ?_⟩
      have t2 := same_upd (o := .lst []) hzl
      have gqd := t2 _ _ (upd_same (H := H4) (a := qd) (o := .dK []))
      have gzl : (upd (upd H4 qd (.dK [])) zl (.lst [])) zl = some (.lst []) := upd_same
      have s2 := Same.tr t1 t2
      generalize upd (upd H4 qd (.dK [])) zl (.lst []) = H5 at gqd gzl s2
      refine ⟨gqd, [((Sum.inr "q" : Key), V.ref zl)], rfl, by show 1 ≤ 15; decide, ?_⟩
      have em : mergeK [] [((Sum.inr "q" : Key), V.ref zl)] = [((Sum.inr "q" : Key), V.ref zl)] := rfl
      rw [em]
      have s3 : Same H4 (upd H5 qd (.dK [((Sum.inr "q" : Key), V.ref zl)])) := fun q o e => by rw [upd_ne (ne_of_none e hqd)]; exact s2 _ _ e
      have gz6 : (upd H5 qd (.dK [((Sum.inr "q" : Key), V.ref zl)])) zl = some (.lst []) := by rw [upd_ne (ne_of gzl gqd (by intro z; cases z))]; exact gzl
      have gq6 : (upd H5 qd (.dK [((Sum.inr "q" : Key), V.ref zl)])) qd = some (.dK [((Sum.inr "q" : Key), V.ref zl)]) := upd_same
      generalize upd H5 qd (.dK [((Sum.inr "q" : Key), V.ref zl)]) = H6 at s3 gz6 gq6
      intro x dx hx hdx hne2
      have tx : Same H6 (upd (upd H6 dx (.own x)) x (.ins C dx [])) := fun b o e => by rw [upd_ne (ne_of_none e hx), upd_ne (ne_of_none e hdx)]; exact e
      have mv7 := (mv4.same s3).same tx
      refine ⟨x, dx, mv, qd, zl, cer n, r, t, fun _ => lab, rfl, upd_same, mv7.top, ⟨.inl mv7.top, mv7.row, fun _ _ => List.Perm.refl _, fun _ _ _ => rfl, fun s hs a ha => .inr (mv7.cel s hs a ha)⟩, ok, tx _ _ gq6, .inl (tx _ _ gz6), fun H' hB hbut => ⟨rfl, ?_⟩⟩
      have sbx : Same H6 H' := fun b o e => hbut _ _ (tx _ _ e) (ne_of_none e hx)
      have mv8 := (mv4.same s3).same sbx
      refine ⟨_, rfl, mv, cer n, r, t, rfl, mv8, ok, fun wd rr H8 fw _ hrr grr sm8 => ⟨_, _, rfl, ?_⟩, fun nr => absurd nr nor⟩
      have hB8 := hB.same sm8
      have hlen : (wd.length : Int) = ((n : Int) - 1) ^ (2 : Int).toNat := by
        have e1 := cer_len n2 n8 fw
        have e2 : ((n : Int) - 1) = ((n - 1 : Nat) : Int) := by omega
        rw [e1, e2]
        show (((n - 1) ^ 2 : Nat) : Int) = ((n - 1 : Nat) : Int) ^ 2
        exact Int.natCast_pow _ _
      refine ⟨_, rfl, .ref rr, wd.length, rfl, .inl ⟨_, SqL.of grr, by rw [List.length_map, lets_len]⟩, _, rfl, _, _, rfl, rfl, _, _, rfl, rfl, ⟨by decide, by decide, by omega⟩, rfl, _, rfl, iteNS (congrArg V.int hlen) ?_⟩
      refine ⟨_, rfl, x, cer n, rfl, hB8, ok, fun w1 r1 H9 f1 hr1 g1 sm9 => ?_, fun nr => absurd nr nor⟩
      refine ⟨_, rfl, x, cer n, rfl, hB8.same sm9, ok, h2S, one, fun w2 r2 H10 f2 hr2 g2 sm10 => ?_, fun nr => absurd nr nor⟩
      have e1 : w1 = wd := f1.uniq fw
      have e2 : w2 = wd := f2.uniq fw
      rw [e1] at g1
      rw [e2] at g2
      refine ⟨sz_le (by show 2 ≤ 1000; decide), fun l1 hl1 => ⟨_, rfl, _, rfl, sz_le (by show 2 ≤ 1000; decide), fun l2 hl2 => ?_⟩⟩
      have u1 := same_upd (o := .lst [.ref r1, .ref r2]) hl1
      have gl1 : (upd H10 l1 (.lst [.ref r1, .ref r2])) l1 = some (.lst [.ref r1, .ref r2]) := upd_same
      have u2 := same_upd (o := .lst [.ref rr, .ref rr]) hl2
      have gl2 : (upd (upd H10 l1 (.lst [.ref r1, .ref r2])) l2 (.lst [.ref rr, .ref rr])) l2 = some (.lst [.ref rr, .ref rr]) := upd_same
      have gl12 := u2 _ _ gl1
      have gr1 := u2 _ _ (u1 _ _ (sm10 _ _ g1))
      have gr2 := u2 _ _ (u1 _ _ g2)
      have grr2 := u2 _ _ (u1 _ _ (sm10 _ _ (sm9 _ _ grr)))
      have s11 : Same H8 (upd (upd H10 l1 (.lst [.ref r1, .ref r2])) l2 (.lst [.ref rr, .ref rr])) := Same.tr sm9 (Same.tr sm10 (Same.tr u1 u2))
      generalize upd (upd H10 l1 (.lst [.ref r1, .ref r2])) l2 (.lst [.ref rr, .ref rr]) = H11 at gl2 gl12 gr1 gr2 grr2 s11
      have hwl : (lets (cer n).L zz wd).length < 1000 := by
        rw [lets_len, cer_len n2 n8 fw]
        have h7 : n - 1 ≤ 7 := by omega
        have := Nat.pow_le_pow_left h7 2
        have h49 : (7 : Nat) ^ 2 = 49 := by decide
        omega
      have row : ∀ ra, H11 ra = some (.lst ((lets (cer n).L zz wd).map V.str)) → SameV 1 H11 (.ref ra) (.ref rr) := fun ra g => .inr ⟨ra, rr, _, _, rfl, rfl, g, grr2, rfl, by rw [List.length_map]; exact hwl, fun i u v hu hv => by
        have e := hu.symm.trans hv
        obtain ⟨z, _, rfl⟩ := str_at hu
        exact ⟨Option.some.inj e, .inr (.inl ⟨z, rfl⟩)⟩⟩
      refine ⟨.ref l1, .ref l2, rfl, .inr ⟨l1, l2, _, _, rfl, rfl, gl12, gl2, rfl, by show 2 < 1000; decide, fun i u v hu hv => ?_⟩, fun H12 sm12 => ⟨_, rfl, iteF ?_⟩⟩
      · match i, hu, hv with
        | 0, hu, hv =>
          obtain rfl := Option.some.inj hu
          obtain rfl := Option.some.inj hv
          exact row _ gr1
        | 1, hu, hv =>
          obtain rfl := Option.some.inj hu
          obtain rfl := Option.some.inj hv
          exact row _ gr2
      have hB12 := hB8.same (Same.tr s11 sm12)
      have kn := keep_nil ok nor
      refine ⟨_, rfl, x, cer n, rfl, hB12, ok, fun _ H13 sm13 => ⟨_, rfl, iteDT rfl ⟨_, rfl, x, cer n, rfl, hB12.same sm13, ok, one, kn, fun H14 sm14 => ?_⟩⟩, fun hne => absurd kn hne⟩
      have ed : decide (V.non = V.non) = true := decide_eq_true rfl
      show Q (V.bl (decide (V.non = V.non))) H14
      rw [ed]
      exact k H14
end
end K45
end
section
set_option maxRecDepth 100000
set_option maxHeartbeats 4000000
namespace K45
open PySem PySem.Spec L2
theorem Mv0.sb {H H' : Hp} {m p q : Addr} {c : Nat} {M : Mch} {r : Str → Addr} {t : Str → Str → Addr} (h : Mv0 H m M r t) (S : Str8 p q c H) (s : SB p q H H') : Mv0 H' m M r t := by
  have k : ∀ a o, H a = some o → (∀ xs, o ≠ .lst xs) → H' a = some o := fun a o e no => s a o e (S.nd e no).1 (S.nd e no).2
  exact ⟨k _ _ h.top (by intro xs z; cases z), fun x hx => k _ _ (h.row x hx) (by intro xs z; cases z), fun x hx a ha => k _ _ (h.cel x hx a ha) (by intro xs z; cases z)⟩
/-- a list is replaced: boxes and moves stay -/
theorem Mv0.lst {H : Hp} {m l : Addr} {M : Mch} {r : Str → Addr} {t : Str → Str → Addr} {xs : List V} {o : HO} (h : Mv0 H m M r t) (hl : H l = some (.lst xs)) : Mv0 (upd H l o) m M r t :=
  ⟨by rw [upd_ne (ne_of h.top hl (by intro z; cases z))]; exact h.top, fun x hx => by rw [upd_ne (ne_of (h.row x hx) hl (by intro z; cases z))]; exact h.row x hx, fun x hx a ha => by rw [upd_ne (ne_of (h.cel x hx a ha) hl (by intro z; cases z))]; exact h.cel x hx a ha⟩
theorem Rd.lst {H : Hp} {a l : Addr} {kvs : List (Key × V)} {xs : List V} {o : HO} (h : Rd H a (.dK kvs)) (hl : H l = some (.lst xs)) : Rd (upd H l o) a (.dK kvs) := by
  rcases h with h | ⟨ob, h⟩
  · exact .inl (by rw [upd_ne (ne_of h hl (by intro z; cases z))]; exact h)
  · exact .inr ⟨ob, by rw [upd_ne (ne_of h hl (by intro z; cases z))]; exact h⟩
theorem BoxAt.lst {C : Addr} {H : Hp} {b l : Addr} {M : Mch} {xs : List V} {o : HO} (h : BoxAt C H b M) (hl : H l = some (.lst xs)) : BoxAt C (upd H l o) b M := by
  obtain ⟨dx, m, fs, h1, h2, h3, r, t, h4, h5⟩ := h
  exact ⟨dx, m, fs, by rw [upd_ne (ne_of h1 hl (by intro z; cases z))]; exact h1, h2, h3, r, t, Rd.lst h4 hl, fun s hs => ⟨Rd.lst (h5 s hs).1 hl, fun a ha => by rw [upd_ne (ne_of ((h5 s hs).2 a ha) hl (by intro z; cases z))]; exact (h5 s hs).2 a ha⟩⟩
/-- a dict is locked: boxes stay readable -/
theorem Rd.locked {H : Hp} {a d : Addr} {kvs u : List (Key × V)} {o : Obj} (h : Rd H a (.dK kvs)) (hd : H d = some (.dK u)) : Rd (upd H d (.frz o (.dK u))) a (.dK kvs) := by
  by_cases e : a = d
  · subst e
    rcases h with h | ⟨ob, h⟩
    · rw [hd] at h
      have := Option.some.inj h
      exact .inr ⟨o, by rw [upd_same, this]⟩
    · rw [hd] at h; cases h
  · exact h.elim (fun h => .inl (by rw [upd_ne e]; exact h)) fun ⟨ob, h⟩ => .inr ⟨ob, by rw [upd_ne e]; exact h⟩
theorem BoxAt.locked {C : Addr} {H : Hp} {b d : Addr} {M : Mch} {u : List (Key × V)} {o : Obj} (h : BoxAt C H b M) (hd : H d = some (.dK u)) : BoxAt C (upd H d (.frz o (.dK u))) b M := by
  obtain ⟨dx, m, fs, h1, h2, h3, r, t, h4, h5⟩ := h
  exact ⟨dx, m, fs, by rw [upd_ne (ne_of h1 hd (by intro z; cases z))]; exact h1, h2, h3, r, t, Rd.locked h4 hd, fun s hs => ⟨Rd.locked (h5 s hs).1 hd, fun a ha => by rw [upd_ne (ne_of ((h5 s hs).2 a ha) hd (by intro z; cases z))]; exact (h5 s hs).2 a ha⟩⟩
theorem row_same {H : Hp} {a b : Addr} {xs : List Str} (ha : H a = some (.lst (xs.map V.str))) (hb : H b = some (.lst (xs.map V.str))) (hl : xs.length < 1000) : SameV 1 H (.ref a) (.ref b) :=
  .inr ⟨a, b, _, _, rfl, rfl, ha, hb, rfl, by rw [List.length_map]; exact hl, fun i u v hu hv => by
    have e := hu.symm.trans hv
    obtain ⟨z, _, rfl⟩ := str_at hu
    exact ⟨Option.some.inj e, .inr (.inl ⟨z, rfl⟩)⟩⟩
theorem keep_not {M : Mch} (ok : M.Ok) (h : NoRes M) : keepF M.S M.L M.d ≠ [] := fun e => by
  obtain ⟨w, hw, hr⟩ := keep_none ok.s0 ok.sn ok.st e
  obtain ⟨x, hx, e2⟩ := lets_of (L := M.L) zz hw
  exact h x hx (by rw [e2]; exact hr)
def swp (p : Pr) : Pr := (p.2, p.1)
theorem clo_swp {L : List Str} {d : Str → Str → Str} {ps : List Pr} (h : Clo L d ps) : Clo L d (ps.map swp) := fun p hp a ha => by
  obtain ⟨p0, h0, rfl⟩ := List.mem_map.mp hp
  have := inP_iff.mp (h p0 h0 a ha)
  refine inP_iff.mpr ?_
  rcases this with h1 | h1
  · exact .inl (List.mem_map.mpr ⟨_, h1, rfl⟩)
  · exact .inr (List.mem_map.mpr ⟨_, h1, rfl⟩)
theorem eqv_prs (ps : List Pr) : PyData.eqv (.list (ps.map dPr)) (.list (ps.map dPr)) = true := by
  have e : ps.map dPr = (ps.map fun p => [p.1, p.2]).map dTup := by rw [List.map_map]; rfl
  rw [e]
  simp only [PyData.eqv, eqv_tups]
  simp
theorem paired_swp {H : Hp} {D : Addr} : ∀ {ts : List Addr} {ps : List Pr}, Paired (fun c (p : Pr) => H c = some (.lst [.str p.2, .str p.1]) ∧ c ≠ D) ts ps → Paired (fun c (p : Pr) => Cell H c (.str p.1) (.str p.2)) ts (ps.map swp)
  | _, _, .nil => .nil
  | _, _, .cons r t => .cons (.inl r.1) (paired_swp t)
section
variable {P : Program} {w : World} {K : PySem.W.Frag} {mg : Str → Option Value} {base : Heap} {C : Addr}
def spLaw (K : PySem.W.Frag) : Sp := fun vs H Q _ => ∃ (a : Addr) (ns : List Int), vs = [.ref a] ∧ SqL K H a (ns.map V.int) ∧ ns.length ≤ 63 ∧ ∀ H', Q (.bl true) H'
abbrev sc_law_st : Stmt := top 62
abbrev sc_law_N : List Str := ["_law_script", "_law_stream", "_law_turn", "_law_moves", "_law_box", "_law_due", "_law_told", "_law_kept", "_law_kept_so", "_law_pair", "_law_state"]
theorem sc_law : FnScope sc_law_N ["_law_script"] (C8.fnScope sc_law_st) := C8.fnScope_by (by decide +kernel)
theorem c_law (T : Txt K mg) (c : CTxt K C) (c_law_start : Call1 P w K mg base 1 "_law_start" (spStart K)) (c_law_b_moves : Call1 P w K mg base 6 "_law_b_moves" spBMoves) (c_law_b_bare : Call1 P w K mg base 8 "_law_b_bare" (spBare C)) (c_law_b_reset : Call1 P w K mg base 2 "_law_b_reset" spLReset)
    (c_reset_row : Call1 P w K mg base 3 "reset_row" (spReset C)) (c_keep : Call1 P w K mg base 5 "keep" (spKeep C)) (c_law_same : Call1 P w K mg base 2 "_law_same" (spSame 1)) (c_law_is_keep : Call1 P w K mg base 2 "_law_is_keep" (spLKeep K)) (c_is_keep : Call1 P w K mg base 4 "is_keep" (spIsKeep C))
    (m_end : Met1 P w K mg base C 3 "end" (spEnd C)) (c_law_long_right : Call1 P w K mg base 7 "_law_long_right" spLong) {f : Addr} {fd : FuncData} (F : C8.Def K mg "law" sc_law_st f fd) : FnOk P w K mg base C8.CX0 9 f fd ["_law_script"] (spLaw K) := by
  refine C8.fn0 F.fn sc_law (fun vs H Q E h => ?_) (fun cdv A outer s H vs Q E hr h => ?_)
  · obtain ⟨a, ns, rfl, _⟩ := h
    rfl
  · obtain ⟨a, ns, rfl, hS, hns, k⟩ := h
    have hu := hu_of hr
    refine ⟨_, (pss_cons (ps_set (i := 1) sc_law.nd rfl (by first | exact Or.inl rfl | exact Or.inr rfl) (C8.pe_c c_law_start hr (by decide) (by rfl) (pa_cons (pv 0) pa_nil)))
    (pss_cons (ps_for PassesOwn.never rfl (pi_range1 (by rfl) T.n_range (pa_cons pe_int pa_nil)) (pg_name (i := 2) sc_law.nd rfl (by first | exact Or.inl rfl | exact Or.inr rfl))
     (pss_cons (ps_set (i := 3) sc_law.nd rfl (by first | exact Or.inl rfl | exact Or.inr rfl) (C8.pe_c c_law_b_moves hr (by decide) (by rfl) (pa_cons (pv 1) (pa_cons pe_int (pa_cons pe_int pa_nil)))))
      (pss_cons (ps_set (i := 4) sc_law.nd rfl (by first | exact Or.inl rfl | exact Or.inr rfl) (C8.pe_c c_law_b_bare hr (by decide) (by rfl) (pa_cons (pv 1) (pa_cons (pv 3) pa_nil))))
      (pss_cons (ps_asg (pe_tup (pa_cons (C8.pe_c c_law_b_reset hr (by decide) (by rfl) (pa_cons (pv 3) pa_nil)) (pa_cons (C8.pe_c c_reset_row hr (by decide) (by rfl) (pa_cons (pv 4) pa_nil)) (pa_cons (C8.pe_c c_keep hr (by decide) (by rfl) (pa_cons (pv 4) pa_nil)) pa_nil)))) (tupG K (n := 3) rfl (pgs_cons (pg_name (i := 5) sc_law.nd rfl (by first | exact Or.inl rfl | exact Or.inr rfl)) (pgs_cons (pg_name (i := 6) sc_law.nd rfl (by first | exact Or.inl rfl | exact Or.inr rfl)) (pgs_cons (pg_name (i := 7) sc_law.nd rfl (by first | exact Or.inl rfl | exact Or.inr rfl)) pgs_nil)))))
      (pss_cons (ps_if (PW.pt (pw_or (pt_not (pt_val (C8.pe_c c_law_same hr (by decide) (by rfl) (pa_cons (pv 6) (pa_cons (pv 5) pa_nil))))) (pw_or1 (pt_cmpR op_ne (pe_cmp (pc_isN (pv 7)) rfl) (pe_cmp (pc_notN (pv 5)) rfl) (nomark _))))) (pss_one (ps_ret pe_bl))
       pss_nil)
      (pss_one (ps_if (pt_cmp (pc_notN (pv 7)) rfl) (pss_cons (ps_if (PW.pt (pw_or (pt_not (pt_val (pe_callB (isiK K) (by rfl) T.n_isinstance (by decide +kernel) (pa_cons (pv 7) (pa_cons (pe_bltn (v := .ty "list") (u := .type "list") (by rfl) T.n_list (by decide +kernel) rfl) pa_nil))))) (pw_or1 (pt_not (pt_val (pe_callB (allK K rfl) (by rfl) T.n_all (by decide +kernel) (pa_cons (pe_lc (own := [("_law_pair", 9)]) (g := (gName 9)) (tt := tYes) rfl sc_law.nd (listI K (pv 7)) (blkOk_by (N := sc_law_N) (sc := C8.fnScope sc_law_st) (by decide +kernel)) (fun _ _ _ _ _ => (pg_name (i := 9) sc_law.nd rfl (by first | exact Or.inl rfl | exact Or.inr rfl))) (fun _ _ _ _ _ => pts_nil) (fun _ _ _ _ _ => (pe_and (pe_callB (isiK K) (by rfl) T.n_isinstance (by decide +kernel) (pa_cons (pv 9) (pa_cons (pe_bltn (v := .ty "tuple") (u := .type "tuple") (by rfl) T.n_tuple (by decide +kernel) rfl) pa_nil))) (pe_one (pe_cmpR op_eq (pe_callB (lenK K) (by rfl) T.n_len (by decide +kernel) (pa_cons (pv 9) pa_nil)) pe_int (nomark _)))))) pa_nil))))))) (pss_one (ps_ret pe_bl))
         pss_nil)
        (pss_cons (ps_if (PW.pt (pw_or (pt_not (pt_val (C8.pe_c c_law_is_keep hr (by decide) (by rfl) (pa_cons (pv 3) (pa_cons (pv 7) pa_nil))))) (pw_or1 (pt_cmpR (neDK K hr.units) (C8.pe_c c_keep hr (by decide) (by rfl) (pa_cons (pv 4) pa_nil)) (pv 7) (nomark _))))) (pss_one (ps_ret pe_bl))
         pss_nil)
        (pss_cons (ps_setLc (i := 8) (own := [("_law_pair", 9)]) (g := (gName 9)) (tt := tYes) rfl sc_law.nd rfl rfl (sw_true rfl rfl rfl (by decide +kernel)) (listI K (pv 7)) (blkOk_by (N := sc_law_N) (sc := C8.fnScope sc_law_st) (by decide +kernel)) (fun _ _ _ _ _ => (pg_name (i := 9) sc_law.nd rfl (by first | exact Or.inl rfl | exact Or.inr rfl))) (fun _ _ _ _ _ => pts_nil) (fun _ _ _ _ _ => (revLK K (pe_callTy (listK K) (by rfl) T.n_list (by decide +kernel) (pa_cons (pv 9) pa_nil)))))
        (pss_cons (ps_if (pt_not (pt_val (C8.pe_c c_law_same hr (by decide) (by rfl) (pa_cons (pe_lst (pa_cons (C8.pe_c c_is_keep hr (by decide) (by rfl) (pa_cons (pv 4) (pa_cons (pv 7) pa_nil))) (pa_cons (C8.pe_c c_is_keep hr (by decide) (by rfl) (pa_cons (pv 4) (pa_cons (pe_callTy (tupleK K) (by rfl) T.n_tuple (by decide +kernel) (pa_cons (pv 8) pa_nil)) pa_nil))) pa_nil))) (pa_cons (pe_lst (pa_cons pe_bl (pa_cons pe_bl pa_nil))) pa_nil))))) (pss_one (ps_ret pe_bl))
         pss_nil)
        (pss_cons (ps_expr (pe_bm0 PySem.F.plainAttrs_list PySem.F.slot_list_clear PySem.F.type_list_clear mt_clear (pv 7)))
        (pss_one (ps_if (pt_not (pt_val (C8.pe_c c_law_is_keep hr (by decide) (by rfl) (pa_cons (pv 3) (pa_cons (C8.pe_c c_keep hr (by decide) (by rfl) (pa_cons (pv 4) pa_nil)) pa_nil))))) (pss_one (ps_ret pe_bl))
         pss_nil)))))))
       (pss_one (ps_if (pt_cmpR op_ne (countSet K rfl (by rfl) T.n_len (by rfl) T.n_set (pe_lock (pe_lc (own := [("_law_state", 10)]) (g := (gName 10)) (tt := tYes) rfl sc_law.nd (pi_keys (pv 3)) (blkOk_by (N := sc_law_N) (sc := C8.fnScope sc_law_st) (by decide +kernel)) (fun _ _ _ _ _ => (pg_name (i := 10) sc_law.nd rfl (by first | exact Or.inl rfl | exact Or.inr rfl))) (fun _ _ _ _ _ => pts_nil) (fun _ _ _ _ _ => (C8.pe_mt m_end hr (by decide) (pv 4) (pa_cons (pv 10) (pa_cons (pv 6) pa_nil))))))) pe_int (nomark _)) (pss_one (ps_ret pe_bl))
         (pss_one (ps_if (pt_cmpR (neDK K hr.units) (pv 6) (pe_lst pa_nil) (nomark _)) (pss_cons (ps_expr (bmK K PySem.F.plainAttrs_list PySem.F.slot_list_append PySem.F.type_list_append mt_append (pv 6) (pa_cons pe_str pa_nil)))
            (pss_one (ps_if (pt_not (pt_val (C8.pe_c c_law_same hr (by decide) (by rfl) (pa_cons (C8.pe_c c_reset_row hr (by decide) (by rfl) (pa_cons (pv 4) pa_nil)) (pa_cons (pv 5) pa_nil))))) (pss_one (ps_ret pe_bl))
             pss_nil)))
           pss_nil)))))))))))
    (pss_one (ps_ret (C8.pe_c c_law_long_right hr (by decide) (by rfl) (pa_cons (pv 1) pa_nil)))))), ?_⟩
    refine ⟨_, rfl, a, ns, rfl, hS, fun p q H1 S8 sm1 => ?_⟩
    refine ⟨_, rfl, by decide, by decide, ?_⟩
    refine for_range (lo := 0) (n := 4) (fun i σ H1 => ∃ (c : Nat) (v2 v3 v4 v5 v6 v7 v8 : Option V), σ = [some (.ref a), some (.ref p), v2, v3, v4, v5, v6, v7, v8, none, none] ∧ c ≤ 700 * i ∧ Str8 p q c H1) ⟨0, none, none, none, none, none, none, none, rfl, Nat.zero_le _, S8⟩ ?_ ?_
    · rintro i σ H1 hi ⟨c0, v2, v3, v4, v5, v6, v7, v8, rfl, hc0, S81⟩
      refine ⟨_, rfl, p, q, c0, 6, 3, rfl, S81, by omega, by decide, by decide, by decide, by decide, fun mv M r t c1 H2 hmv mv0 ok hc1 S82 sb2 => ?_⟩
      refine ⟨_, rfl, _, rfl, p, q, mv, c1, M, r, t, rfl, S82, by omega, mv0, ok, fun bx c2 H3 hB hc2 S83 sb3 => ?_⟩
      have mv3 := mv0.sb S82 sb3
      have fin : ∀ {Hx : Hp}, Str8 p q c2 Hx → c2 ≤ 700 * (i + 1) ∧ Str8 p q c2 Hx := fun S => ⟨by omega, S⟩
      refine ⟨_, rfl, mv, M, r, t, rfl, mv3, ok, fun w due H4 fw hw300 hdue gdue sm4 => ?_, fun nr H4 sm4 => ?_⟩
      · -- a reset row
        refine ⟨_, rfl, bx, M, rfl, hB.same sm4, ok, fun w2 told H5 f2 htold gtold sm5 => ?_, fun nr => absurd fw.2.1 (nr w fw.1)⟩
        have ew : w2 = w := f2.uniq fw
        rw [ew] at gtold
        have kn : keepF M.S M.L M.d = [] := keep_nil ok fun nr => nr w fw.1 fw.2.1
        refine ⟨_, rfl, bx, M, rfl, (hB.same sm4).same sm5, ok, fun _ H6 sm6 => ?_, fun hne => absurd kn hne⟩
        have s46 := Same.tr sm5 sm6
        have gdue6 := s46 _ _ gdue
        have gtold6 := sm6 _ _ gtold
        have ndt : due ≠ told := ne_of_none gdue htold
        have s36 := Same.tr sm4 s46
        have hB6 := hB.same s36
        have mv6 := mv3.same s36
        have S86 := S83.same s36
        have ntp := S83.nnew (Same.free sm4 htold)
        have wl : (lets M.L zz w).length ≤ 300 := by rw [lets_len]; exact hw300
        have wL := lets_in (z := zz) fw.1
        refine ⟨sz_le (by show 3 ≤ 1000; decide), fun tq htq => ⟨_, _, rfl, SqT.of upd_same, rfl, _, _, rfl, _, _, rfl, _, _, rfl, rfl, ?_⟩⟩
        have tT := same_upd (o := .tup [.ref due, .ref told, .non]) htq
        have gdue7 := tT _ _ gdue6
        have gtold7 := tT _ _ gtold6
        have hB7 := hB6.same tT
        have mv7 := mv6.same tT
        have S87 := S86.same tT
        generalize upd H6 tq (.tup [.ref due, .ref told, .non]) = H7 at gdue7 gtold7 hB7 mv7 S87
        refine ⟨_, rfl, _, rfl, .ref told, .ref due, rfl, row_same gtold7 gdue7 (by omega), fun H8 sm8 => ⟨_, rfl, iteF ?_⟩⟩
        refine ⟨_, rfl, _, rfl, rfl, _, rfl, iteNS rfl ?_⟩
        refine ⟨_, rfl, _, rfl, ?_⟩
        refine iteNS rfl ?_
        have gdue8 := sm8 _ _ gdue7
        have gtold8 := sm8 _ _ gtold7
        have hB8 := hB7.same sm8
        have mv8 := mv7.same sm8
        have S88 := S87.same sm8
        refine ⟨mv, _, mv8.top, True.intro, fun od => ⟨_, rfl, mv, od, rfl, .inl ⟨_, upd_same, fun Dn hD => ?_⟩⟩⟩
        have fD := lock_free hD
        obtain ⟨t0, ht0⟩ := fw.2.1
        have hBL := hB8.locked (o := od) mv8.top
        have gtL : (upd H8 mv (.frz od (.dK (tab M.S fun s => .ref (r s))))) told = some (.lst ((lets M.L zz w).map V.str)) := by rw [upd_ne (ne_of gtold8 mv8.top (by intro z; cases z))]; exact gtold8
        refine lc_it walk_keys (fun j H9 => H9 Dn = some (.lst ((List.replicate j t0).map V.str)) ∧ Same (upd H8 mv (.frz od (.dK (tab M.S fun s => .ref (r s))))) H9) ⟨upd_same, same_upd hD⟩ (fun _ _ _ h => h.2 _ _ upd_same) ?_ ?_
        · rintro j x H9 H10 hj ⟨gD, sm9⟩ ⟨rfl, kk, vv, hkv, rfl⟩
          obtain ⟨y, hy, rfl, rfl⟩ := tab_get hkv
          have hyS := List.mem_of_getElem? hy
          have hB10 := hBL.same sm9
          obtain ⟨dx, mm, fs, b1, b2, b3, b4⟩ := id hB10
          refine ⟨rfl, _, rfl, bx, dx, fs, rfl, b1, b3 _ (by decide +kernel) (by decide +kernel), _, rfl, _, rfl, bx, M, y, told, _, rfl, hB10, ok, hyS, sm9 _ _ gtL, wL, by omega, fun H11 sm11 => ?_⟩
          rw [ht0 y hyS]
          refine ⟨_, sm11 _ _ gD, small1000 ?_, ?_, fun z o e => by rw [upd_ne (ne_of_none e hD)]; exact sm11 _ _ (sm9 _ _ e)⟩
          · rw [List.length_map, List.length_replicate]
            rw [tab_len] at hj
            have := ok.sf
            omega
          · rw [upd_same, List.replicate_succ', List.map_append]; rfl
        rintro H9 ⟨gD, sm9⟩
        rw [tab_len] at gD
        have s89 := same_unlock mv8.top sm9
        have gD9 : (upd H9 mv (.dK (tab M.S fun s => .ref (r s)))) Dn = some (.lst ((List.replicate M.S.length t0).map V.str)) := by rw [upd_ne fD.1]; exact gD
        refine ⟨sm9 _ _ upd_same, ?_⟩
        generalize upd H9 mv (.dK (tab M.S fun s => .ref (r s))) = H10 at s89 gD9
        refine ⟨Dn, _, rfl, .inl (SqL.of gD9), by rw [List.length_replicate]; have := ok.sf; omega, fun n hn => ?_⟩
        have en : n = 1 := by
          obtain ⟨zs, nd, hz, hm⟩ := hn
          have hS0 : 0 < M.S.length := List.length_pos_iff.mpr ok.s0
          have h1 := nodup_len nd (r := [t0]) fun x hx => by
            have := (hm x).mp hx
            rw [List.eq_of_mem_replicate this]; simp
          have h2 : 0 < zs.length := List.length_pos_of_mem ((hm t0).mpr (List.mem_replicate.mpr ⟨by omega, rfl⟩))
          simp at h1
          omega
        subst en
        refine ⟨rfl, _, rfl, iteNS rfl ?_⟩
        have gdue10 := s89 _ _ gdue8
        have gtold10 := s89 _ _ gtold8
        have hB10 := hB8.same s89
        have S810 := S88.same s89
        refine ⟨_, rfl, sz_le (by show 0 ≤ 1000; decide), fun el hel => ?_⟩
        have te := same_upd (o := .lst []) hel
        refine ⟨dRow (lets M.L zz w), dRow [], dp_row (SqL.of (te _ _ gtold10)), dp_row (xs := []) (SqL.of upd_same), (lay_row (lets_nm ok fw.1).oks).shaped (by decide), (lay_row (xs := []) (fun x hx => (by cases hx))).shaped (by decide), _, rfl, ?_⟩
        have gtold11 := te _ _ gtold10
        have gdue11 := te _ _ gdue10
        have hB11 := hB10.same te
        have S811 := S810.same te
        generalize upd H10 el (.lst []) = H11 at gtold11 gdue11 hB11 S811
        refine ite2 (fun _ => ?_) fun _ => ?_
        · refine ⟨_, rfl, .inl ⟨rfl, _, SqL.of gtold11⟩, told, _, _, rfl, rfl, gtold11, small1000 (by rw [List.length_map]; omega), ?_⟩
          have gdue12 : (upd H11 told (.lst ((lets M.L zz w).map V.str ++ [V.str "spoilt"]))) due = some (.lst ((lets M.L zz w).map V.str)) := by rw [upd_ne ndt]; exact gdue11
          have hB12 := hB11.lst (o := .lst ((lets M.L zz w).map V.str ++ [V.str "spoilt"])) gtold11
          have S812 := S811.put (o := .lst ((lets M.L zz w).map V.str ++ [V.str "spoilt"])) ntp.1 ntp.2
          generalize upd H11 told (.lst ((lets M.L zz w).map V.str ++ [V.str "spoilt"])) = H12 at gdue12 hB12 S812
          refine ⟨_, rfl, bx, M, rfl, hB12, ok, fun w3 told3 H13 f3 htold3 gtold3 sm13 => ?_, fun nr => absurd fw.2.1 (nr w fw.1)⟩
          rw [f3.uniq fw] at gtold3
          exact ⟨_, rfl, .ref told3, .ref due, rfl, row_same gtold3 (sm13 _ _ gdue12) (by omega), fun H14 sm14 => ⟨_, rfl, iteF ⟨c2, _, _, _, _, _, _, _, rfl, fin ((S812.same sm13).same sm14)⟩⟩⟩
        · exact ⟨c2, _, _, _, _, _, _, _, rfl, fin S811⟩
      · -- none
        have kne := keep_not ok nr
        refine ⟨_, rfl, bx, M, rfl, hB.same sm4, ok, fun w2 told H5 f2 => absurd f2.2.1 (nr w2 f2.1), fun _ H5 sm5 => ?_⟩
        refine ⟨_, rfl, bx, M, rfl, (hB.same sm4).same sm5, ok, fun e => absurd e kne, fun _ kl H6 hkl pk sm6 => ?_⟩
        have k64 := keep_64 ok
        have kin := keep_in (S := M.S) (L := M.L) (d := M.d) ok.sn
        have kcl := keep_clo (S := M.S) (L := M.L) (d := M.d)
        obtain ⟨ps, eps⟩ : ∃ ps, ps = keepF M.S M.L M.d := ⟨_, rfl⟩
        rw [← eps] at kne pk k64 kin kcl
        have s36 := Same.tr sm4 (Same.tr sm5 sm6)
        have nkp := S83.nnew (Same.free sm4 (Same.free sm5 hkl))
        refine ⟨sz_le (by show 3 ≤ 1000; decide), fun tq htq => ⟨_, _, rfl, SqT.of upd_same, rfl, _, _, rfl, _, _, rfl, _, _, rfl, rfl, ?_⟩⟩
        have tT := same_upd (o := .tup [.non, .non, .ref kl]) htq
        have s37 := Same.tr s36 tT
        have pk7 := pk.same tT
        generalize upd H6 tq (.tup [.non, .non, .ref kl]) = H7 at s37 pk7
        refine ⟨_, rfl, _, rfl, .non, .non, rfl, .inl ⟨rfl, .inl rfl⟩, fun H8 sm8 => ⟨_, rfl, iteF ?_⟩⟩
        refine ⟨_, rfl, _, rfl, rfl, _, rfl, iteNS rfl ?_⟩
        refine ⟨_, rfl, _, rfl, iteNT (fun e => nomatch e) ?_⟩
        have s38 := Same.tr s37 sm8
        obtain ⟨cs, gkl8, pcs8⟩ := pk7.same sm8
        have hcl : cs.length = ps.length := paired_len pcs8
        refine ⟨_, rfl, .ref kl, .ty "list", .type "list", .type "list", true, rfl, .ty _, .base (.lst gkl8), rfl, _, rfl, iteF ?_⟩
        refine ⟨_, rfl, kl, rfl, ⟨_, SqL.of gkl8⟩, fun Dn hD => ?_⟩
        refine lc_list (K := K) (a := kl) (xs := cs.map V.ref) (fun j H9 => H9 Dn = some (.lst ((List.replicate j true).map V.bl)) ∧ Same H8 H9) ⟨upd_same, same_upd hD⟩ (fun i H9 _ h => SqL.of (h.2 _ _ gkl8)) ?_ ?_
        · rintro j x H9 hj ⟨gD, sm9⟩
          obtain ⟨ca, hca, rfl⟩ := refs_get hj
          obtain ⟨pp, hp, hpr⟩ := paired_get pcs8 hca
          have hpr9 := sm9 _ _ hpr
          refine ⟨rfl, _, rfl, .ref ca, .ty "tuple", .type "tuple", .type "tuple", true, rfl, .ty _, .base (.tup hpr9), rfl, _, rfl, iteT ⟨_, rfl, .ref ca, 2, rfl, .inr ⟨_, SqT.of hpr9, rfl⟩, rfl, _, gD, small1000 ?_, ?_, fun z o e => by rw [upd_ne (ne_of_none e hD)]; exact sm9 _ _ e⟩⟩
          · rw [List.length_map, List.length_replicate]
            have := (List.getElem?_eq_some_iff.mp hca).1
            omega
          · rw [upd_same, List.replicate_succ', List.map_append]; rfl
        rintro H9 ⟨gD, sm9⟩
        refine ⟨Dn, _, rfl, SqL.of gD, ?_⟩
        rw [all_trues]
        refine ⟨_, rfl, iteF ?_⟩
        have s39 := Same.tr s38 sm9
        have pk9 : PrsAt H9 kl ps := PrsAt.same ⟨cs, gkl8, pcs8⟩ sm9
        have laid := lay_prs (ps := ps) fun z hz => ⟨ok.sm _ (kin z hz).1, ok.sm _ (kin z hz).2.1⟩
        refine ⟨_, rfl, _, rfl, mv, kl, M, r, t, ps, rfl, mv3.same s39, ok, pk9, kne, k64, kin, kcl, fun HA smA => ⟨_, rfl, iteF ?_⟩⟩
        have s3A := Same.tr s39 smA
        refine ⟨_, rfl, bx, M, rfl, hB.same s3A, ok, fun e => absurd (eps.trans e) kne, fun _ k2 HB hk2 pk2 smB => ?_⟩
        rw [← eps] at pk2
        have pkB : PrsAt HB kl ps := (pk9.same smA).same smB
        refine ⟨_, rfl, _, _, dp_prs pk2, dp_prs pkB, laid.shaped (by decide), laid.shaped (by decide), _, rfl, ?_⟩
        rw [eqv_prs]
        refine iteF ?_
        have s3B := Same.tr s3A smB
        obtain ⟨cs, gkl, pcs⟩ := id pkB
        have hcl : cs.length = ps.length := paired_len pcs
        refine ⟨_, rfl, kl, rfl, ⟨_, SqL.of gkl⟩, fun D8 hD8 => ?_⟩
        refine lc_list (K := K) (a := kl) (xs := cs.map V.ref) (fun j HC => ∃ ts : List Addr, HC D8 = some (.lst (ts.map V.ref)) ∧ Paired (fun c (p : Pr) => HC c = some (.lst [.str p.2, .str p.1]) ∧ c ≠ D8) ts (ps.take j) ∧ Same HB HC) ⟨[], upd_same, .nil, same_upd hD8⟩ (fun i HC _ ⟨_, _, _, h⟩ => SqL.of (h _ _ gkl)) ?_ ?_
        · rintro j x HC hj ⟨ts, gD, pt, smC⟩
          obtain ⟨ca, hca, rfl⟩ := refs_get hj
          obtain ⟨pp, hp, hpr⟩ := paired_get pcs hca
          have hprC := smC _ _ hpr
          refine ⟨rfl, _, rfl, ca, _, rfl, .inr (SqT.of hprC), fun l1 hl1 => ⟨l1, _, rfl, SqL.of upd_same, fun l2 hl2 => ?_⟩⟩
          have u1 := same_upd (o := .lst [.str pp.1, .str pp.2]) hl1
          have u2 := same_upd2 (o := .lst ([V.str pp.1, V.str pp.2].reverse)) u1 (Same.free u1 hl2)
          have gl2 : (upd (upd HC l1 (.lst [.str pp.1, .str pp.2])) l2 (.lst ([V.str pp.1, V.str pp.2].reverse))) l2 = some (.lst [.str pp.2, .str pp.1]) := upd_same
          have n2 : l2 ≠ D8 := (ne_of_none (u1 _ _ gD) hl2).symm
          have gD2 := u2 _ _ gD
          refine ⟨_, gD2, small1000 ?_, ts ++ [l2], by rw [upd_same, List.map_append]; rfl, ?_, fun z o e => by rw [upd_ne (ne_of_none e hD8)]; exact u2 _ _ (smC _ _ e)⟩
          · rw [List.length_map, paired_len pt, List.length_take]; omega
          · rw [take_snoc hp]
            exact paired_snoc ⟨by rw [upd_ne n2]; exact gl2, n2⟩ (paired_imp (fun c x _ e => ⟨by rw [upd_ne e.2]; exact u2 _ _ e.1, e.2⟩) pt)
        rintro HC ⟨ts, gD8, pt, smC⟩
        rw [List.length_map, hcl, List.take_length] at pt
        have s3C := Same.tr s3B smC
        have pkC := pkB.same smC
        have thing1 : Thing HC kl ps := by
          obtain ⟨cs, g, pd⟩ := id pkC
          exact ⟨cs, .inl g, paired_imp (fun c x _ e => .inr e) pd⟩
        refine ⟨_, rfl, _, rfl, bx, kl, M, ps, rfl, hB.same s3C, ok, thing1, kne, k64, kin, kcl, fun HE smE => ?_⟩
        refine ⟨_, rfl, _, rfl, D8, _, rfl, .inl ⟨SqL.of (smE _ _ gD8), fun tp htp => ?_⟩⟩
        have u1 := same_upd (o := .tup (ts.map V.ref)) htp
        have s3F := Same.tr s3C (Same.tr smE u1)
        have thing2 : Thing (upd HE tp (.tup (ts.map V.ref))) tp (ps.map swp) := ⟨ts, .inr upd_same, paired_imp (fun c x _ e => e.same (Same.tr smE u1)) (paired_swp pt)⟩
        refine ⟨bx, tp, M, ps.map swp, rfl, hB.same s3F, ok, thing2, fun e => kne (List.map_eq_nil_iff.mp e), by rw [List.length_map]; exact k64, fun z hz => ?_, clo_swp kcl, fun HG smG => ?_⟩
        · obtain ⟨z0, h0, rfl⟩ := List.mem_map.mp hz
          exact ⟨(kin z0 h0).2.1, (kin z0 h0).1, fun e => (kin z0 h0).2.2 e.symm⟩
        refine ⟨sz_le (by show 2 ≤ 1000; decide), fun l1 hl1 => ⟨sz_le (by show 2 ≤ 1000; decide), fun l2 hl2 => ?_⟩⟩
        have v1 := same_upd (o := .lst [.bl true, .bl true]) hl1
        have v2 := same_upd (o := .lst [.bl true, .bl true]) hl2
        have gl1 := v2 _ _ (upd_same (H := HG) (a := l1) (o := .lst [.bl true, .bl true]))
        refine ⟨.ref l1, .ref l2, rfl, .inr ⟨l1, l2, _, _, rfl, rfl, gl1, upd_same, rfl, by show 2 < 1000; decide, fun i u v hu hv => ?_⟩, fun HI smI => ⟨_, rfl, iteF ?_⟩⟩
        · have e := hu.symm.trans hv
          refine ⟨Option.some.inj e, .inr (.inr ⟨true, ?_⟩)⟩
          match i, hu with
          | 0, hu => exact (Option.some.inj hu).symm
          | 1, hu => exact (Option.some.inj hu).symm
        have s3I := Same.tr s3F (Same.tr smG (Same.tr v1 (Same.tr v2 smI)))
        obtain ⟨cs2, gkI, _⟩ := pkC.same (Same.tr smE (Same.tr u1 (Same.tr smG (Same.tr v1 (Same.tr v2 smI)))))
        refine ⟨_, rfl, .inl ⟨rfl, _, SqL.of gkI⟩, kl, _, rfl, rfl, gkI, ?_⟩
        have hBJ := (hB.same s3I).lst (o := .lst []) gkI
        have mvJ := (mv3.same s3I).lst (o := .lst []) gkI
        have S8J := (S83.same s3I).put (o := .lst []) nkp.1 nkp.2
        refine ⟨_, rfl, _, rfl, bx, M, rfl, hBJ, ok, fun e => absurd (eps.trans e) kne, fun _ k3 HK hk3 pk3 smK => ?_⟩
        rw [← eps] at pk3
        exact ⟨mv, k3, M, r, t, ps, rfl, mvJ.same smK, ok, pk3, kne, k64, kin, kcl, fun HL smL => ⟨_, rfl, iteF ⟨c2, _, _, _, _, _, _, _, rfl, fin ((S8J.same smK).same smL)⟩⟩⟩
    · rintro σ H1 ⟨c0, v2, v3, v4, v5, v6, v7, v8, rfl, hc0, S81⟩
      exact ⟨_, rfl, p, q, c0, rfl, S81, by omega, k⟩
end
end K45
end
section
set_option maxRecDepth 100000
set_option maxHeartbeats 4000000
namespace K45
open PySem PySem.Spec L2
/-! ## the end: what the top has written -/
structure FunF (K : PySem.W.Frag) (x qual : Str) (st : Stmt) (f : Addr) : Prop where
  ex : ∃ (oc : Value) (od : Option Addr) (kV doc pm : Value) (an : Option Addr) (cd ct : Value) (sl : Array (Option Value)),
    K.lookup f = some ⟨oc, od, .func (PySem.W.fnOf x qual (C8.fnArgs st) (C8.fnBody st) (C8.fnScope st) .none kV doc pm an cd ct), sl⟩ ∧ PySem.W.codeIn K cd qual = true
structure DfnF (K : PySem.W.Frag) (x : Str) (st : Stmt) : Prop where
  ex : ∃ f : Addr, PySem.W.nsIn K mainGlobals x = some (some (.ref f)) ∧ FunF K x x st f ∧ PySem.W.keepIn K (.ref f) = true
structure MetF (K : PySem.W.Frag) (C : Addr) (x qual : Str) (st : Stmt) : Prop where
  ex : ∃ f : Addr, PySem.W.findIn K (.ref C) x = some (some (.ref f)) ∧ FunF K x qual st f ∧ PySem.W.isFn K (.ref f) = true ∧ PySem.W.keepIn K (.ref f) = true
theorem funF_mk {K : PySem.W.Frag} {x qual : Str} {st : Stmt} {f : Addr} {oc : Value} {od : Option Addr} {kV doc pm : Value} {an : Option Addr} {cd ct : Value} {sl : Array (Option Value)}
    (l : K.lookup f = some ⟨oc, od, .func (PySem.W.fnOf x qual (C8.fnArgs st) (C8.fnBody st) (C8.fnScope st) .none kV doc pm an cd ct), sl⟩) (c : PySem.W.codeIn K cd qual = true) : FunF K x qual st f := ⟨⟨oc, od, kV, doc, pm, an, cd, ct, sl, l, c⟩⟩
theorem dfnF_mk {K : PySem.W.Frag} {x : Str} {st : Stmt} {f : Addr} {oc : Value} {od : Option Addr} {kV doc pm : Value} {an : Option Addr} {cd ct : Value} {sl : Array (Option Value)}
    (a : PySem.W.nsIn K mainGlobals x = some (some (.ref f)))
    (l : K.lookup f = some ⟨oc, od, .func (PySem.W.fnOf x x (C8.fnArgs st) (C8.fnBody st) (C8.fnScope st) .none kV doc pm an cd ct), sl⟩) (c : PySem.W.codeIn K cd x = true) (k : PySem.W.keepIn K (.ref f) = true) : DfnF K x st := ⟨⟨f, a, funF_mk l c, k⟩⟩
theorem metF_mk {K : PySem.W.Frag} {C : Addr} {x qual : Str} {st : Stmt} {f : Addr} {oc : Value} {od : Option Addr} {kV doc pm : Value} {an : Option Addr} {cd ct : Value} {sl : Array (Option Value)}
    (a : PySem.W.findIn K (.ref C) x = some (some (.ref f)))
    (l : K.lookup f = some ⟨oc, od, .func (PySem.W.fnOf x qual (C8.fnArgs st) (C8.fnBody st) (C8.fnScope st) .none kV doc pm an cd ct), sl⟩) (c : PySem.W.codeIn K cd qual = true) (i : PySem.W.isFn K (.ref f) = true) (k : PySem.W.keepIn K (.ref f) = true) : MetF K C x qual st := ⟨⟨f, a, funF_mk l c, i, k⟩⟩
/-- the parameters of a def, all given -/
def Given (x qual : Str) (st : Stmt) (ps : List Str) : Prop := ∀ (kV doc pm : Value) (an : Option Addr) (cdv ct : Value) (us : List Value), us.length = ps.length →
  bindArgs (PySem.W.fnOf x qual (C8.fnArgs st) (C8.fnBody st) (C8.fnScope st) .none kV doc pm an cdv ct) ⟨us, []⟩ = pure (ps.zip us)
theorem FunF.fn {K : PySem.W.Frag} {x qual : Str} {st : Stmt} {f : Addr} {ps : List Str} (F : FunF K x qual st f) (g : Given x qual st ps) : ∃ fd : FuncData, C8.Fun K x qual st f fd ∧ Binds K fd ps [] ∧ ∀ (s : Shared) (us : List Value), us.length = ps.length → BindsTo s fd ⟨us, []⟩ (ps.zip us) := by
  obtain ⟨oc, od, kV, doc, pm, an, cd, ct, sl, l, c⟩ := F.ex
  exact ⟨_, ⟨oc, od, .none, kV, doc, pm, an, cd, ct, sl, rfl, l, c⟩, .all (g kV doc pm an cd ct), fun s us hl => .of_eq (g kV doc pm an cd ct us hl)⟩
theorem DfnF.dfn {K : PySem.W.Frag} {h : Heap} {mg : Str → Option Value} {x : Str} {st : Stmt} {ps : List Str} (F : DfnF K x st) (X : K.In h) (G : h.Ns mainGlobals mg) (g : Given x x st ps) : Dfn K mg x st ps := by
  obtain ⟨f, a, F, k⟩ := F.ex
  obtain ⟨fd, h1, h2, _⟩ := F.fn g
  exact ⟨f, fd, ⟨h1, PySem.W.mg_of X G a, k⟩, h2⟩
theorem MetF.dfn {K : PySem.W.Frag} {C : Addr} {x qual : Str} {st : Stmt} {ps : List Str} (F : MetF K C x qual st) (g : Given x qual st ps) : MDfn K C x qual st ps := by
  obtain ⟨f, a, F, i, k⟩ := F.ex
  obtain ⟨fd, h1, h2, _⟩ := F.fn g
  exact ⟨f, fd, ⟨a, i, k⟩, h1, h2⟩
theorem MetF.cls {K : PySem.W.Frag} {h : Heap} {mg : Str → Option Value} {C : Addr} {qual : Str} {st : Stmt} {ps : List Str} (F : MetF K C "__init__" qual st) (X : K.In h) (G : h.Ns mainGlobals mg) (g : Given "__init__" qual st ps)
    (aC : PySem.W.nsIn K mainGlobals "Box" = some (some (.ref C))) (mk : PySem.W.makesIn K C = true) (kc : PySem.W.keepIn K (.ref C) = true) : KDfn K C mg "Box" qual st ps := by
  obtain ⟨f, a, F, i, k⟩ := F.ex
  obtain ⟨fd, h1, h2, _⟩ := F.fn g
  exact ⟨f, fd, ⟨mk, a, i, kc⟩, PySem.W.mg_of X G aC, h1, h2⟩

theorem g__law_draw : Given "_law_draw" "_law_draw" sc_law_draw_st ["_law_stream", "_law_many"] := fun _ _ _ _ _ _ us hl => match us, hl with | [_, _], _ => rfl
theorem g__law_pick : Given "_law_pick" "_law_pick" sc_law_pick_st ["_law_stream", "_law_some"] := fun _ _ _ _ _ _ us hl => match us, hl with | [_, _], _ => rfl
theorem g__law_mixed : Given "_law_mixed" "_law_mixed" sc_law_mixed_st ["_law_stream", "_law_some"] := fun _ _ _ _ _ _ us hl => match us, hl with | [_, _], _ => rfl
theorem g__law_name : Given "_law_name" "_law_name" sc_law_name_st ["_law_stream"] := fun _ _ _ _ _ _ us hl => match us, hl with | [_], _ => rfl
theorem g__law_names : Given "_law_names" "_law_names" sc_law_names_st ["_law_stream", "_law_many"] := fun _ _ _ _ _ _ us hl => match us, hl with | [_, _], _ => rfl
theorem g__law_b_letters : Given "_law_b_letters" "_law_b_letters" sc_law_b_letters_st ["_law_moves"] := fun _ _ _ _ _ _ us hl => match us, hl with | [_], _ => rfl
theorem g__law_b_names : Given "_law_b_names" "_law_b_names" sc_law_b_names_st ["_law_stream", "_law_first", "_law_many"] := fun _ _ _ _ _ _ us hl => match us, hl with | [_, _, _], _ => rfl
theorem g__law_b_moves : Given "_law_b_moves" "_law_b_moves" sc_law_b_moves_st ["_law_stream", "_law_most", "_law_wide"] := fun _ _ _ _ _ _ us hl => match us, hl with | [_, _, _], _ => rfl
theorem g_is_list : Given "is_list" "is_list" sc_is_list_st ["thing"] := fun _ _ _ _ _ _ us hl => match us, hl with | [_], _ => rfl
theorem g_is_name : Given "is_name" "is_name" sc_is_name_st ["thing"] := fun _ _ _ _ _ _ us hl => match us, hl with | [_], _ => rfl
theorem g_letters_of_box : Given "letters_of_box" "letters_of_box" sc_letters_of_box_st ["moves"] := fun _ _ _ _ _ _ us hl => match us, hl with | [_], _ => rfl
theorem g_is_box_move : Given "is_box_move" "is_box_move" sc_is_box_move_st ["thing", "states"] := fun _ _ _ _ _ _ us hl => match us, hl with | [_, _], _ => rfl
theorem g_is_state_row : Given "is_state_row" "is_state_row" sc_is_state_row_st ["thing", "letters", "states"] := fun _ _ _ _ _ _ us hl => match us, hl with | [_, _, _], _ => rfl
theorem g_checked_moves : Given "checked_moves" "checked_moves" sc_checked_moves_st ["moves"] := fun _ _ _ _ _ _ us hl => match us, hl with | [_], _ => rfl
theorem g_is_put : Given "is_put" "is_put" sc_is_put_st ["thing", "letters"] := fun _ _ _ _ _ _ us hl => match us, hl with | [_, _], _ => rfl
theorem g_ask_of : Given "ask_of" "ask_of" sc_ask_of_st ["thing", "letters", "states"] := fun _ _ _ _ _ _ us hl => match us, hl with | [_, _, _], _ => rfl
theorem g_signs_of_pair : Given "signs_of_pair" "signs_of_pair" sc_signs_of_pair_st ["box", "pair", "letter"] := fun _ _ _ _ _ _ us hl => match us, hl with | [_, _, _], _ => rfl
theorem g_led_pair : Given "led_pair" "led_pair" sc_led_pair_st ["box", "pair", "letter"] := fun _ _ _ _ _ _ us hl => match us, hl with | [_, _, _], _ => rfl
theorem g_is_pair_in : Given "is_pair_in" "is_pair_in" sc_is_pair_in_st ["pair", "pairs"] := fun _ _ _ _ _ _ us hl => match us, hl with | [_, _], _ => rfl
theorem g_unlike_pairs : Given "unlike_pairs" "unlike_pairs" sc_unlike_pairs_st ["box"] := fun _ _ _ _ _ _ us hl => match us, hl with | [_], _ => rfl
theorem g_lasting : Given "lasting" "lasting" sc_lasting_st ["box", "pairs"] := fun _ _ _ _ _ _ us hl => match us, hl with | [_, _], _ => rfl
theorem g_keep : Given "keep" "keep" sc_keep_st ["box"] := fun _ _ _ _ _ _ us hl => match us, hl with | [_], _ => rfl
theorem g_reset_row : Given "reset_row" "reset_row" sc_reset_row_st ["box"] := fun _ _ _ _ _ _ us hl => match us, hl with | [_], _ => rfl
theorem g_later_lots : Given "later_lots" "later_lots" sc_later_lots_st ["box", "lots", "letter"] := fun _ _ _ _ _ _ us hl => match us, hl with | [_, _, _], _ => rfl
theorem g_now_row : Given "now_row" "now_row" sc_now_row_st ["box"] := fun _ _ _ _ _ _ us hl => match us, hl with | [_], _ => rfl
theorem g_is_unseen : Given "is_unseen" "is_unseen" sc_is_unseen_st ["box", "pair"] := fun _ _ _ _ _ _ us hl => match us, hl with | [_, _], _ => rfl
theorem g_blind_list : Given "blind_list" "blind_list" sc_blind_list_st ["box"] := fun _ _ _ _ _ _ us hl => match us, hl with | [_], _ => rfl
theorem g_is_state_pair : Given "is_state_pair" "is_state_pair" sc_is_state_pair_st ["box", "thing"] := fun _ _ _ _ _ _ us hl => match us, hl with | [_, _], _ => rfl
theorem g_is_keep : Given "is_keep" "is_keep" sc_is_keep_st ["box", "thing"] := fun _ _ _ _ _ _ us hl => match us, hl with | [_, _], _ => rfl
theorem g__law_b_reset : Given "_law_b_reset" "_law_b_reset" sc_law_b_reset_st ["_law_moves"] := fun _ _ _ _ _ _ us hl => match us, hl with | [_], _ => rfl
theorem g__law_b_box : Given "_law_b_box" "_law_b_box" sc_law_b_box_st ["_law_stream", "_law_moves", "_law_asks"] := fun _ _ _ _ _ _ us hl => match us, hl with | [_, _, _], _ => rfl
theorem g__law_b_bare : Given "_law_b_bare" "_law_b_bare" sc_law_b_bare_st ["_law_stream", "_law_moves"] := fun _ _ _ _ _ _ us hl => match us, hl with | [_, _], _ => rfl
theorem g__law_start : Given "_law_start" "_law_start" sc_law_start_st ["_law_script"] := fun _ _ _ _ _ _ us hl => match us, hl with | [_], _ => rfl
theorem g__law_same : Given "_law_same" "_law_same" sc_law_same_st ["_law_found", "_law_due"] := fun _ _ _ _ _ _ us hl => match us, hl with | [_, _], _ => rfl
theorem g__law_is_keep : Given "_law_is_keep" "_law_is_keep" sc_law_is_keep_st ["_law_moves", "_law_thing"] := fun _ _ _ _ _ _ us hl => match us, hl with | [_, _], _ => rfl
theorem g__law_long_right : Given "_law_long_right" "_law_long_right" sc_law_long_right_st ["_law_stream"] := fun _ _ _ _ _ _ us hl => match us, hl with | [_], _ => rfl
theorem g_law : Given "law" "law" sc_law_st ["_law_script"] := fun _ _ _ _ _ _ us hl => match us, hl with | [_], _ => rfl
theorem gm_states : Given "states" "Box.states" sc_Box_states_st ["self"] := fun _ _ _ _ _ _ us hl => match us, hl with | [_], _ => rfl
theorem gm_letters : Given "letters" "Box.letters" sc_Box_letters_st ["self"] := fun _ _ _ _ _ _ us hl => match us, hl with | [_], _ => rfl
theorem gm_check_state : Given "check_state" "Box.check_state" sc_Box_check_state_st ["self", "state"] := fun _ _ _ _ _ _ us hl => match us, hl with | [_, _], _ => rfl
theorem gm_move : Given "move" "Box.move" sc_Box_move_st ["self", "state", "letter"] := fun _ _ _ _ _ _ us hl => match us, hl with | [_, _, _], _ => rfl
theorem gm_is_state : Given "is_state" "Box.is_state" sc_Box_is_state_st ["self", "thing"] := fun _ _ _ _ _ _ us hl => match us, hl with | [_, _], _ => rfl
theorem gm_checked_row : Given "checked_row" "Box.checked_row" sc_Box_checked_row_st ["self", "state", "row"] := fun _ _ _ _ _ _ us hl => match us, hl with | [_, _, _], _ => rfl
theorem gm_gone : Given "gone" "Box.gone" sc_Box_gone_st ["self", "state", "row"] := fun _ _ _ _ _ _ us hl => match us, hl with | [_, _, _], _ => rfl
theorem gm_end : Given "end" "Box.end" sc_Box_end_st ["self", "state", "row"] := fun _ _ _ _ _ _ us hl => match us, hl with | [_, _, _], _ => rfl
theorem gm_init : Given "__init__" "Box.__init__" sc_Box_init_st ["self", "moves", "questions"] := fun _ _ _ _ _ _ us hl => match us, hl with | [_, _, _], _ => rfl
theorem all_mk {l : PySem.W.OpenLaw} {w : World} {K : PySem.W.Frag} {h : Heap} {mg : Str → Option Value} {fa C : Addr} {tS : PySem.Tok} (X : K.In h) (G : h.Ns mainGlobals mg) (hfa : mg "law" = some (.ref fa))
    (aC : PySem.W.nsIn K mainGlobals "Box" = some (some (.ref C)))
    (pg : PySem.W.plainGet K C Str.empty = true) (hd : PySem.W.hasDictIn K C = true) (po : PySem.W.plainOver K C = true) (sa : PySem.W.findIn K (.ref C) "__setattr__" = some (some (.builtin "object.__setattr__"))) (mk : PySem.W.makesIn K C = true) (kc : PySem.W.keepIn K (.ref C) = true)
    (nM : PySem.W.findIn K (.ref C) "own_moves" = some none) (nA : PySem.W.findIn K (.ref C) "own_asks" = some none)
    (sg : PySem.W.nsIn K mainGlobals "NAME_SIGNS" = some (some (.str "abcdefghijklmnopqrstuvwxyz0123456789." tS)))
    (z0 : PySem.W.nsIn K mainGlobals "len" = some none) (z1 : PySem.W.nsIn K mainGlobals "isinstance" = some none) (z2 : PySem.W.nsIn K mainGlobals "all" = some none) (z3 : PySem.W.nsIn K mainGlobals "any" = some none) (z4 : PySem.W.nsIn K mainGlobals "list" = some none) (z5 : PySem.W.nsIn K mainGlobals "tuple" = some none) (z6 : PySem.W.nsIn K mainGlobals "dict" = some none) (z7 : PySem.W.nsIn K mainGlobals "set" = some none) (z8 : PySem.W.nsIn K mainGlobals "sorted" = some none) (z9 : PySem.W.nsIn K mainGlobals "range" = some none) (z10 : PySem.W.nsIn K mainGlobals "enumerate" = some none) (z11 : PySem.W.nsIn K mainGlobals "zip" = some none) (z12 : PySem.W.nsIn K mainGlobals "int" = some none) (z13 : PySem.W.nsIn K mainGlobals "str" = some none) (z14 : PySem.W.nsIn K mainGlobals "bool" = some none)
    (d0 : DfnF K "_law_draw" sc_law_draw_st)
    (d1 : DfnF K "_law_pick" sc_law_pick_st)
    (d2 : DfnF K "_law_mixed" sc_law_mixed_st)
    (d3 : DfnF K "_law_name" sc_law_name_st)
    (d4 : DfnF K "_law_names" sc_law_names_st)
    (d5 : DfnF K "_law_b_letters" sc_law_b_letters_st)
    (d6 : DfnF K "_law_b_names" sc_law_b_names_st)
    (d7 : DfnF K "_law_b_moves" sc_law_b_moves_st)
    (d8 : DfnF K "is_list" sc_is_list_st)
    (d9 : DfnF K "is_name" sc_is_name_st)
    (d10 : DfnF K "letters_of_box" sc_letters_of_box_st)
    (d11 : DfnF K "is_box_move" sc_is_box_move_st)
    (d12 : DfnF K "is_state_row" sc_is_state_row_st)
    (d13 : DfnF K "checked_moves" sc_checked_moves_st)
    (d14 : DfnF K "is_put" sc_is_put_st)
    (d15 : DfnF K "ask_of" sc_ask_of_st)
    (d16 : DfnF K "signs_of_pair" sc_signs_of_pair_st)
    (d17 : DfnF K "led_pair" sc_led_pair_st)
    (d18 : DfnF K "is_pair_in" sc_is_pair_in_st)
    (d19 : DfnF K "unlike_pairs" sc_unlike_pairs_st)
    (d20 : DfnF K "lasting" sc_lasting_st)
    (d21 : DfnF K "keep" sc_keep_st)
    (d22 : DfnF K "reset_row" sc_reset_row_st)
    (d23 : DfnF K "later_lots" sc_later_lots_st)
    (d24 : DfnF K "now_row" sc_now_row_st)
    (d25 : DfnF K "is_unseen" sc_is_unseen_st)
    (d26 : DfnF K "blind_list" sc_blind_list_st)
    (d27 : DfnF K "is_state_pair" sc_is_state_pair_st)
    (d28 : DfnF K "is_keep" sc_is_keep_st)
    (d29 : DfnF K "_law_b_reset" sc_law_b_reset_st)
    (d30 : DfnF K "_law_b_box" sc_law_b_box_st)
    (d31 : DfnF K "_law_b_bare" sc_law_b_bare_st)
    (d32 : DfnF K "_law_start" sc_law_start_st)
    (d33 : DfnF K "_law_same" sc_law_same_st)
    (d34 : DfnF K "_law_is_keep" sc_law_is_keep_st)
    (d35 : DfnF K "_law_long_right" sc_law_long_right_st)
    (d36 : DfnF K "law" sc_law_st)
    (m0 : MetF K C "states" "Box.states" sc_Box_states_st)
    (m1 : MetF K C "letters" "Box.letters" sc_Box_letters_st)
    (m2 : MetF K C "check_state" "Box.check_state" sc_Box_check_state_st)
    (m3 : MetF K C "move" "Box.move" sc_Box_move_st)
    (m4 : MetF K C "is_state" "Box.is_state" sc_Box_is_state_st)
    (m5 : MetF K C "checked_row" "Box.checked_row" sc_Box_checked_row_st)
    (m6 : MetF K C "gone" "Box.gone" sc_Box_gone_st)
    (m7 : MetF K C "end" "Box.end" sc_Box_end_st)
    (mI : MetF K C "__init__" "Box.__init__" sc_Box_init_st)
    : ∃ fd : FuncData, (∀ (s : Shared) (v : Value), BindsTo s fd ⟨[v], []⟩ [("_law_script", v)]) ∧ ∀ base : Heap, K.In base → base.Ns mainGlobals mg → FnOk l.prog w K mg base C8.CX0 9 fa fd ["_law_script"] (spLaw K) := by
  have T : Txt K mg := ⟨PySem.W.mg_none_of X G z0, PySem.W.mg_none_of X G z1, PySem.W.mg_none_of X G z2, PySem.W.mg_none_of X G z3, PySem.W.mg_none_of X G z4, PySem.W.mg_none_of X G z5, PySem.W.mg_none_of X G z6, PySem.W.mg_none_of X G z7, PySem.W.mg_none_of X G z8, PySem.W.mg_none_of X G z9, PySem.W.mg_none_of X G z10, PySem.W.mg_none_of X G z11, PySem.W.mg_none_of X G z12, PySem.W.mg_none_of X G z13, PySem.W.mg_none_of X G z14⟩
  have c : CTxt K C := ⟨⟨pg, hd, po, sa⟩, nM, nA⟩
  have Gs : Glb mg := ⟨_, PySem.W.mg_of X G sg⟩
  obtain ⟨fl, al, Fl, kl⟩ := d36.ex
  have e := hfa.symm.trans (PySem.W.mg_of X G al)
  cases e
  obtain ⟨fd, Fl1, _, bl⟩ := Fl.fn g_law
  refine ⟨fd, fun s v => bl s [v] rfl, fun base _ _ => ?_⟩
  have h_c_law_draw : Call1 l.prog w K mg base 1 "_law_draw" spDraw := c_law_draw T (d0.dfn X G g__law_draw)
  have h_c_law_pick : Call1 l.prog w K mg base 2 "_law_pick" (spPick K) := c_law_pick T (d1.dfn X G g__law_pick) h_c_law_draw
  have h_c_law_pickS : Call1 l.prog w K mg base 2 "_law_pick" spPickS := c_law_pickS T (d1.dfn X G g__law_pick) h_c_law_draw
  have h_c_law_mixed : Call1 l.prog w K mg base 2 "_law_mixed" (spMixed K) := c_law_mixed T (d2.dfn X G g__law_mixed) h_c_law_draw
  have h_c_law_name : Call1 l.prog w K mg base 3 "_law_name" spName := c_law_name T (d3.dfn X G g__law_name) h_c_law_draw h_c_law_pickS
  have h_c_law_names : Call1 l.prog w K mg base 4 "_law_names" spNames := c_law_names T (d4.dfn X G g__law_names) h_c_law_name
  have h_c_law_b_letters : Call1 l.prog w K mg base 1 "_law_b_letters" spLets := c_law_b_letters T (d5.dfn X G g__law_b_letters)
  have h_c_law_b_names : Call1 l.prog w K mg base 5 "_law_b_names" spBNames := c_law_b_names T (d6.dfn X G g__law_b_names) h_c_law_draw h_c_law_mixed h_c_law_names
  have h_c_law_b_moves : Call1 l.prog w K mg base 6 "_law_b_moves" spBMoves := c_law_b_moves T (d7.dfn X G g__law_b_moves) h_c_law_draw h_c_law_pick h_c_law_mixed h_c_law_b_names
  have h_c_is_list : Call1 l.prog w K mg base 1 "is_list" spIsList := c_is_list T (d8.dfn X G g_is_list)
  have h_c_is_name : Call1 l.prog w K mg base 1 "is_name" spIsName := c_is_name T Gs (d9.dfn X G g_is_name)
  have h_c_letters_of_box : Call1 l.prog w K mg base 2 "letters_of_box" spLetBox := c_letters_of_box T (d10.dfn X G g_letters_of_box) h_c_is_name
  have h_c_is_box_move : Call1 l.prog w K mg base 2 "is_box_move" (spBoxMove K) := c_is_box_move T (d11.dfn X G g_is_box_move) h_c_is_list h_c_is_name
  have h_c_is_state_row : Call1 l.prog w K mg base 3 "is_state_row" (spStateRow K) := c_is_state_row T (d12.dfn X G g_is_state_row) h_c_is_box_move
  have h_c_checked_moves : Call1 l.prog w K mg base 4 "checked_moves" spChecked := c_checked_moves T (d13.dfn X G g_checked_moves) h_c_is_name h_c_letters_of_box h_c_is_state_row
  have h_m_states : Met1 l.prog w K mg base C 1 "states" (spStates C) := m_states T c (m0.dfn gm_states)
  have h_m_letters : Met1 l.prog w K mg base C 1 "letters" (spLetters C) := m_letters T c (m1.dfn gm_letters)
  have h_m_check_state : Met1 l.prog w K mg base C 1 "check_state" (spCheck C) := m_check_state T c (m2.dfn gm_check_state)
  have h_m_move : Met1 l.prog w K mg base C 2 "move" (spMove C) := m_move T c h_m_check_state (m3.dfn gm_move)
  have h_m_is_state : Met1 l.prog w K mg base C 1 "is_state" (spIsState C) := m_is_state T c (m4.dfn gm_is_state)
  have h_m_checked_row : Met1 l.prog w K mg base C 2 "checked_row" (spRow C) := m_checked_row T c h_c_is_list h_m_check_state h_m_letters (m5.dfn gm_checked_row)
  have h_m_gone : Met1 l.prog w K mg base C 1 "gone" (spGone C) := m_gone T c (m6.dfn gm_gone)
  have h_m_end : Met1 l.prog w K mg base C 3 "end" (spEnd C) := m_end T c h_m_checked_row h_m_gone (m7.dfn gm_end)
  have h_c_is_put : Call1 l.prog w K mg base 2 "is_put" (spIsPut K) := c_is_put T h_c_is_list (d14.dfn X G g_is_put)
  have h_c_ask_of : Call1 l.prog w K mg base 3 "ask_of" (spAskOf K) := c_ask_of T h_c_is_put (d15.dfn X G g_ask_of)
  have h_c_Box : Mak1 l.prog w K mg base C 5 "Box" (spInit C) := c_Box T c h_c_checked_moves h_m_letters h_c_ask_of h_c_is_name (mI.cls X G gm_init aC mk kc)
  have h_c_signs_of_pair : Call1 l.prog w K mg base 3 "signs_of_pair" (spLed C Mch.g) := c_signs_of_pair T c h_m_move (d16.dfn X G g_signs_of_pair)
  have h_c_led_pair : Call1 l.prog w K mg base 3 "led_pair" (spLed C Mch.d) := c_led_pair T c h_m_move (d17.dfn X G g_led_pair)
  have h_c_is_pair_in : Call1 l.prog w K mg base 1 "is_pair_in" spPairIn := c_is_pair_in T (d18.dfn X G g_is_pair_in)
  have h_c_unlike_pairs : Call1 l.prog w K mg base 2 "unlike_pairs" (spUnlike C) := c_unlike_pairs T c h_m_states (d19.dfn X G g_unlike_pairs)
  have h_c_lasting : Call1 l.prog w K mg base 4 "lasting" (spLasting C) := c_lasting T c h_c_is_pair_in h_c_led_pair h_m_letters (d20.dfn X G g_lasting)
  have h_c_keep : Call1 l.prog w K mg base 5 "keep" (spKeep C) := c_keep T c h_c_unlike_pairs h_c_lasting (d21.dfn X G g_keep)
  have h_c_reset_row : Call1 l.prog w K mg base 3 "reset_row" (spReset C) := c_reset_row T c h_m_states h_m_letters h_m_move (d22.dfn X G g_reset_row)
  have h_c_later_lots : Call1 l.prog w K mg base 3 "later_lots" (spLater C) := c_later_lots T c h_m_move (d23.dfn X G g_later_lots)
  have h_c_now_row : Call1 l.prog w K mg base 4 "now_row" (spNow C) := c_now_row T c h_m_states h_m_letters h_c_later_lots (d24.dfn X G g_now_row)
  have h_c_is_unseen : Call1 l.prog w K mg base 4 "is_unseen" (spUnseen C) := c_is_unseen T c h_m_letters h_c_signs_of_pair (d25.dfn X G g_is_unseen)
  have h_c_blind_list : Call1 l.prog w K mg base 5 "blind_list" (spBlind C) := c_blind_list T c h_c_unlike_pairs h_c_lasting h_c_is_unseen (d26.dfn X G g_blind_list)
  have h_c_is_state_pair : Call1 l.prog w K mg base 2 "is_state_pair" (spStatePair C) := c_is_state_pair T c h_c_is_list h_m_is_state (d27.dfn X G g_is_state_pair)
  have h_c_is_keep : Call1 l.prog w K mg base 4 "is_keep" (spIsKeep C) := c_is_keep T c h_c_is_list h_c_is_state_pair h_c_is_pair_in h_c_led_pair h_m_letters (d28.dfn X G g_is_keep)
  have h_c_law_b_reset : Call1 l.prog w K mg base 2 "_law_b_reset" spLReset := c_law_b_reset T h_c_law_b_letters (d29.dfn X G g__law_b_reset)
  have h_c_law_b_box : Call1 l.prog w K mg base 7 "_law_b_box" (spBBox C) := c_law_b_box T h_c_law_b_letters h_c_law_mixed h_c_law_pick h_c_Box (d30.dfn X G g__law_b_box)
  have h_c_law_b_bare : Call1 l.prog w K mg base 8 "_law_b_bare" (spBare C) := c_law_b_bare T h_c_law_b_box (d31.dfn X G g__law_b_bare)
  have h_c_law_start : Call1 l.prog w K mg base 1 "_law_start" (spStart K) := c_law_start T (d32.dfn X G g__law_start)
  have h_same0 := c_law_same0 (P := l.prog) (w := w) (base := base) T (d33.dfn X G g__law_same)
  have h_same1 := c_law_sameS (n := 0) T h_same0 (d33.dfn X G g__law_same)
  have h_same2 := c_law_sameS (n := 1) T h_same1 (d33.dfn X G g__law_same)
  have h_c_law_is_keep : Call1 l.prog w K mg base 2 "_law_is_keep" (spLKeep K) := c_law_is_keep T h_c_law_b_letters (d34.dfn X G g__law_is_keep)
  have h_c_law_long_right : Call1 l.prog w K mg base 7 "_law_long_right" spLong := c_law_long_right T h_c_law_draw h_c_Box h_c_law_b_reset h_same2 h_c_reset_row h_c_now_row h_c_keep h_c_blind_list (d35.dfn X G g__law_long_right)
  exact c_law T c h_c_law_start h_c_law_b_moves h_c_law_b_bare h_c_law_b_reset h_c_reset_row h_c_keep h_same1 h_c_law_is_keep h_c_is_keep h_m_end h_c_law_long_right ⟨Fl1, hfa, kl⟩
theorem walk {l : PySem.W.OpenLaw} {q : Program} {loose : List Str} {XP : (Str → Option Value) → Heap → Prop} {YP : World → Heap → Prop} {d : DefRec} {K : Params → PySem.W.Frag} (hn : l.most = some 63) (hdf : d.params.defaults = [])
    (hY : ∀ (w : World) (h : Heap), YP w h → (K w.params).In h)
    (F : ∀ (w : World) (mg : Str → Option Value) (fa : Addr) (h : Heap), (K w.params).In h → h.Ns mainGlobals mg → mg d.name = some (.ref fa) →
      ∃ fd : FuncData, (∀ (s : Shared) (u : Value), BindsTo s fd ⟨[u], []⟩ [("_law_script", u)]) ∧ ∀ base : Heap, (K w.params).In base → base.Ns mainGlobals mg → FnOk l.prog w (K w.params) mg base C8.CX0 9 fa fd ["_law_script"] (spLaw (K w.params))) :
    PySem.W.WalkO q loose XP YP l.row.toRowW d [] (fun f vs => PySem.call f vs) :=
  L2.walk_of (n := 63) (k := 9) (x := "_law_script") (CX := fun _ => C8.CX0) (sp := fun w => spLaw (K w.params)) hn (by decide) hdf ⟨rfl, by decide, by decide⟩ hY F (fun _ _ a ns hl _ hS => ⟨a, ns, rfl, hS, hl, fun _ => rfl⟩) fun _ _ _ _ _ z => z
end K45
end
section
open PySem PySem.W PyProof.Rows
set_option maxRecDepth 100000 in
set_option maxHeartbeats 0 in
theorem PySem.Challenge.cw_twoworlds_k45_whole_to_one_holds : PySem.Challenge.rw_twoworlds_k45_whole_to_one.Holds := by
  w_on; o_law; k_head; (case hw => w_witness2)
  k_fill
  refine K45.walk (l := PySem.Challenge.rw_twoworlds_k45_whole_to_one) rfl rfl (fun w h Y => PySem.W.kIn_of Y) ?F
  case F =>
    intro w mg fa h KX G hmg
    refine' K45.all_mk KX G hmg ?aC ?pg ?hd ?po ?sa ?mk ?kc ?nM ?nA ?sg ?z0 ?z1 ?z2 ?z3 ?z4 ?z5 ?z6 ?z7 ?z8 ?z9 ?z10 ?z11 ?z12 ?z13 ?z14 ?d0 ?d1 ?d2 ?d3 ?d4 ?d5 ?d6 ?d7 ?d8 ?d9 ?d10 ?d11 ?d12 ?d13 ?d14 ?d15 ?d16 ?d17 ?d18 ?d19 ?d20 ?d21 ?d22 ?d23 ?d24 ?d25 ?d26 ?d27 ?d28 ?d29 ?d30 ?d31 ?d32 ?d33 ?d34 ?d35 ?d36 ?m0 ?m1 ?m2 ?m3 ?m4 ?m5 ?m6 ?m7 ?mI
    (case aC => k_is)
    (case pg => k_is)
    (case hd => k_is)
    (case po => k_is)
    (case sa => k_is)
    (case mk => k_is)
    (case kc => k_is)
    (case nM => k_is)
    (case nA => k_is)
    (case sg => k_is)
    (case z0 => k_is)
    (case z1 => k_is)
    (case z2 => k_is)
    (case z3 => k_is)
    (case z4 => k_is)
    (case z5 => k_is)
    (case z6 => k_is)
    (case z7 => k_is)
    (case z8 => k_is)
    (case z9 => k_is)
    (case z10 => k_is)
    (case z11 => k_is)
    (case z12 => k_is)
    (case z13 => k_is)
    (case z14 => k_is)
    case d0 => (refine' K45.dfnF_mk ?ad0 ?ld0 ?cd0 ?kd0; (case ad0 => k_is); (case ld0 => k_is); (case cd0 => k_is); (case kd0 => k_is))
    case d1 => (refine' K45.dfnF_mk ?ad1 ?ld1 ?cd1 ?kd1; (case ad1 => k_is); (case ld1 => k_is); (case cd1 => k_is); (case kd1 => k_is))
    case d2 => (refine' K45.dfnF_mk ?ad2 ?ld2 ?cd2 ?kd2; (case ad2 => k_is); (case ld2 => k_is); (case cd2 => k_is); (case kd2 => k_is))
    case d3 => (refine' K45.dfnF_mk ?ad3 ?ld3 ?cd3 ?kd3; (case ad3 => k_is); (case ld3 => k_is); (case cd3 => k_is); (case kd3 => k_is))
    case d4 => (refine' K45.dfnF_mk ?ad4 ?ld4 ?cd4 ?kd4; (case ad4 => k_is); (case ld4 => k_is); (case cd4 => k_is); (case kd4 => k_is))
    case d5 => (refine' K45.dfnF_mk ?ad5 ?ld5 ?cd5 ?kd5; (case ad5 => k_is); (case ld5 => k_is); (case cd5 => k_is); (case kd5 => k_is))
    case d6 => (refine' K45.dfnF_mk ?ad6 ?ld6 ?cd6 ?kd6; (case ad6 => k_is); (case ld6 => k_is); (case cd6 => k_is); (case kd6 => k_is))
    case d7 => (refine' K45.dfnF_mk ?ad7 ?ld7 ?cd7 ?kd7; (case ad7 => k_is); (case ld7 => k_is); (case cd7 => k_is); (case kd7 => k_is))
    case d8 => (refine' K45.dfnF_mk ?ad8 ?ld8 ?cd8 ?kd8; (case ad8 => k_is); (case ld8 => k_is); (case cd8 => k_is); (case kd8 => k_is))
    case d9 => (refine' K45.dfnF_mk ?ad9 ?ld9 ?cd9 ?kd9; (case ad9 => k_is); (case ld9 => k_is); (case cd9 => k_is); (case kd9 => k_is))
    case d10 => (refine' K45.dfnF_mk ?ad10 ?ld10 ?cd10 ?kd10; (case ad10 => k_is); (case ld10 => k_is); (case cd10 => k_is); (case kd10 => k_is))
    case d11 => (refine' K45.dfnF_mk ?ad11 ?ld11 ?cd11 ?kd11; (case ad11 => k_is); (case ld11 => k_is); (case cd11 => k_is); (case kd11 => k_is))
    case d12 => (refine' K45.dfnF_mk ?ad12 ?ld12 ?cd12 ?kd12; (case ad12 => k_is); (case ld12 => k_is); (case cd12 => k_is); (case kd12 => k_is))
    case d13 => (refine' K45.dfnF_mk ?ad13 ?ld13 ?cd13 ?kd13; (case ad13 => k_is); (case ld13 => k_is); (case cd13 => k_is); (case kd13 => k_is))
    case d14 => (refine' K45.dfnF_mk ?ad14 ?ld14 ?cd14 ?kd14; (case ad14 => k_is); (case ld14 => k_is); (case cd14 => k_is); (case kd14 => k_is))
    case d15 => (refine' K45.dfnF_mk ?ad15 ?ld15 ?cd15 ?kd15; (case ad15 => k_is); (case ld15 => k_is); (case cd15 => k_is); (case kd15 => k_is))
    case d16 => (refine' K45.dfnF_mk ?ad16 ?ld16 ?cd16 ?kd16; (case ad16 => k_is); (case ld16 => k_is); (case cd16 => k_is); (case kd16 => k_is))
    case d17 => (refine' K45.dfnF_mk ?ad17 ?ld17 ?cd17 ?kd17; (case ad17 => k_is); (case ld17 => k_is); (case cd17 => k_is); (case kd17 => k_is))
    case d18 => (refine' K45.dfnF_mk ?ad18 ?ld18 ?cd18 ?kd18; (case ad18 => k_is); (case ld18 => k_is); (case cd18 => k_is); (case kd18 => k_is))
    case d19 => (refine' K45.dfnF_mk ?ad19 ?ld19 ?cd19 ?kd19; (case ad19 => k_is); (case ld19 => k_is); (case cd19 => k_is); (case kd19 => k_is))
    case d20 => (refine' K45.dfnF_mk ?ad20 ?ld20 ?cd20 ?kd20; (case ad20 => k_is); (case ld20 => k_is); (case cd20 => k_is); (case kd20 => k_is))
    case d21 => (refine' K45.dfnF_mk ?ad21 ?ld21 ?cd21 ?kd21; (case ad21 => k_is); (case ld21 => k_is); (case cd21 => k_is); (case kd21 => k_is))
    case d22 => (refine' K45.dfnF_mk ?ad22 ?ld22 ?cd22 ?kd22; (case ad22 => k_is); (case ld22 => k_is); (case cd22 => k_is); (case kd22 => k_is))
    case d23 => (refine' K45.dfnF_mk ?ad23 ?ld23 ?cd23 ?kd23; (case ad23 => k_is); (case ld23 => k_is); (case cd23 => k_is); (case kd23 => k_is))
    case d24 => (refine' K45.dfnF_mk ?ad24 ?ld24 ?cd24 ?kd24; (case ad24 => k_is); (case ld24 => k_is); (case cd24 => k_is); (case kd24 => k_is))
    case d25 => (refine' K45.dfnF_mk ?ad25 ?ld25 ?cd25 ?kd25; (case ad25 => k_is); (case ld25 => k_is); (case cd25 => k_is); (case kd25 => k_is))
    case d26 => (refine' K45.dfnF_mk ?ad26 ?ld26 ?cd26 ?kd26; (case ad26 => k_is); (case ld26 => k_is); (case cd26 => k_is); (case kd26 => k_is))
    case d27 => (refine' K45.dfnF_mk ?ad27 ?ld27 ?cd27 ?kd27; (case ad27 => k_is); (case ld27 => k_is); (case cd27 => k_is); (case kd27 => k_is))
    case d28 => (refine' K45.dfnF_mk ?ad28 ?ld28 ?cd28 ?kd28; (case ad28 => k_is); (case ld28 => k_is); (case cd28 => k_is); (case kd28 => k_is))
    case d29 => (refine' K45.dfnF_mk ?ad29 ?ld29 ?cd29 ?kd29; (case ad29 => k_is); (case ld29 => k_is); (case cd29 => k_is); (case kd29 => k_is))
    case d30 => (refine' K45.dfnF_mk ?ad30 ?ld30 ?cd30 ?kd30; (case ad30 => k_is); (case ld30 => k_is); (case cd30 => k_is); (case kd30 => k_is))
    case d31 => (refine' K45.dfnF_mk ?ad31 ?ld31 ?cd31 ?kd31; (case ad31 => k_is); (case ld31 => k_is); (case cd31 => k_is); (case kd31 => k_is))
    case d32 => (refine' K45.dfnF_mk ?ad32 ?ld32 ?cd32 ?kd32; (case ad32 => k_is); (case ld32 => k_is); (case cd32 => k_is); (case kd32 => k_is))
    case d33 => (refine' K45.dfnF_mk ?ad33 ?ld33 ?cd33 ?kd33; (case ad33 => k_is); (case ld33 => k_is); (case cd33 => k_is); (case kd33 => k_is))
    case d34 => (refine' K45.dfnF_mk ?ad34 ?ld34 ?cd34 ?kd34; (case ad34 => k_is); (case ld34 => k_is); (case cd34 => k_is); (case kd34 => k_is))
    case d35 => (refine' K45.dfnF_mk ?ad35 ?ld35 ?cd35 ?kd35; (case ad35 => k_is); (case ld35 => k_is); (case cd35 => k_is); (case kd35 => k_is))
    case d36 => (refine' K45.dfnF_mk ?ad36 ?ld36 ?cd36 ?kd36; (case ad36 => k_is); (case ld36 => k_is); (case cd36 => k_is); (case kd36 => k_is))
    case m0 => (refine' K45.metF_mk ?am0 ?lm0 ?cm0 ?im0 ?km0; (case am0 => k_is); (case lm0 => k_is); (case cm0 => k_is); (case im0 => k_is); (case km0 => k_is))
    case m1 => (refine' K45.metF_mk ?am1 ?lm1 ?cm1 ?im1 ?km1; (case am1 => k_is); (case lm1 => k_is); (case cm1 => k_is); (case im1 => k_is); (case km1 => k_is))
    case m2 => (refine' K45.metF_mk ?am2 ?lm2 ?cm2 ?im2 ?km2; (case am2 => k_is); (case lm2 => k_is); (case cm2 => k_is); (case im2 => k_is); (case km2 => k_is))
    case m3 => (refine' K45.metF_mk ?am3 ?lm3 ?cm3 ?im3 ?km3; (case am3 => k_is); (case lm3 => k_is); (case cm3 => k_is); (case im3 => k_is); (case km3 => k_is))
    case m4 => (refine' K45.metF_mk ?am4 ?lm4 ?cm4 ?im4 ?km4; (case am4 => k_is); (case lm4 => k_is); (case cm4 => k_is); (case im4 => k_is); (case km4 => k_is))
    case m5 => (refine' K45.metF_mk ?am5 ?lm5 ?cm5 ?im5 ?km5; (case am5 => k_is); (case lm5 => k_is); (case cm5 => k_is); (case im5 => k_is); (case km5 => k_is))
    case m6 => (refine' K45.metF_mk ?am6 ?lm6 ?cm6 ?im6 ?km6; (case am6 => k_is); (case lm6 => k_is); (case cm6 => k_is); (case im6 => k_is); (case km6 => k_is))
    case m7 => (refine' K45.metF_mk ?am7 ?lm7 ?cm7 ?im7 ?km7; (case am7 => k_is); (case lm7 => k_is); (case cm7 => k_is); (case im7 => k_is); (case km7 => k_is))
    case mI => (refine' K45.metF_mk ?amI ?lmI ?cmI ?imI ?kmI; (case amI => k_is); (case lmI => k_is); (case cmI => k_is); (case imI => k_is); (case kmI => k_is))
end
