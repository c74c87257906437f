import PyProof.Rows.All
import Wide.All
import OpenK.AllK
import Wide.FinOn
import KE.KStateDown
import Lean
import HandS.ForMost
import HandS.Defaults
import HandS.IsInst
import HandS.Codes
import HandS.Conv
import HandS.Sort
import HandS.SortRule
import HandS.SortInts
import HandS.Wide
import HandS.Style
import HandS.NoneIn
import HandS.HeadHook1
import HandS.HeadHook2
import HandS.Head0
import HandS.Head1
import HandS.Head2
import HandS.HeadEnd
import PySem.Challenge.RW_colourcritical_k60_whole_fused_exactly
section
set_option linter.all false
/-! CM1: sorted lists of pairs, neighbours, the search for the first colouring. Plain Lean. -/
namespace CM
abbrev Pr := Nat × Nat

/-! ### pairs in order -/
def plt (p q : Pr) : Bool := decide (p.1 < q.1) || (p.1 == q.1 && decide (p.2 < q.2))
theorem plt_iff {p q : Pr} : plt p q = true ↔ p.1 < q.1 ∨ (p.1 = q.1 ∧ p.2 < q.2) := by
  unfold plt; simp
theorem plt_no {p q : Pr} : plt p q = false ↔ ¬ (p.1 < q.1 ∨ (p.1 = q.1 ∧ p.2 < q.2)) := by
  rw [← plt_iff]; simp
def ins (p : Pr) : List Pr → List Pr
  | [] => [p]
  | q :: r => if plt q p then q :: ins p r else p :: q :: r
def sortE : List Pr → List Pr
  | [] => []
  | p :: r => ins p (sortE r)
abbrev Srt (l : List Pr) : Prop := l.Pairwise fun x y => plt y x = false
theorem ins_perm (p : Pr) : ∀ l, (ins p l).Perm (p :: l)
  | [] => .refl _
  | q :: r => by
    unfold ins
    split
    · exact ((ins_perm p r).cons q).trans (.swap p q r)
    · exact .refl _
theorem sortE_perm : ∀ l, (sortE l).Perm l
  | [] => .refl _
  | p :: r => (ins_perm p _).trans ((sortE_perm r).cons p)
theorem ins_srt (p : Pr) : ∀ {l}, Srt l → Srt (ins p l)
  | [], _ => List.pairwise_singleton _ _
  | q :: r, h => by
    have h' := List.pairwise_cons.mp h
    unfold ins
    split
    · rename_i hq
      refine List.pairwise_cons.mpr ⟨fun z hz => ?_, ins_srt p h'.2⟩
      rcases List.mem_cons.mp ((ins_perm p r).mem_iff.mp hz) with rfl | hz
      · rw [plt_iff] at hq; rw [plt_no]; omega
      · exact h'.1 z hz
    · rename_i hq
      refine List.pairwise_cons.mpr ⟨fun z hz => ?_, h⟩
      rcases List.mem_cons.mp hz with rfl | hz
      · simpa using hq
      · have h1 := h'.1 z hz
        have h2 : plt q p = false := by simpa using hq
        rw [plt_no] at h1 h2 ⊢
        omega
theorem sortE_srt : ∀ l, Srt (sortE l)
  | [] => .nil
  | p :: r => ins_srt p (sortE_srt r)
theorem srt_uniq : ∀ {l m : List Pr}, l.Perm m → Srt l → Srt m → l = m
  | [], m, h, _, _ => h.nil_eq
  | p :: l, [], h, _, _ => by have := h.length_eq; simp at this
  | p :: l, q :: m, h, hl, hm => by
    have hl' := List.pairwise_cons.mp hl
    have hm' := List.pairwise_cons.mp hm
    have e : p = q := by
      rcases List.mem_cons.mp (h.mem_iff.mp (List.mem_cons_self ..)) with e | h1
      · exact e
      · rcases List.mem_cons.mp (h.mem_iff.mpr (List.mem_cons_self ..)) with e | h2
        · exact e.symm
        · have a := hm'.1 p h1
          have b := hl'.1 q h2
          rw [plt_no] at a b
          exact Prod.ext (by omega) (by omega)
    subst e
    rw [srt_uniq (List.Perm.cons_inv h) hl'.2 hm'.2]
theorem sortE_eq {l m : List Pr} (h : l.Perm m) : sortE l = sortE m := srt_uniq ((sortE_perm l).trans (h.trans (sortE_perm m).symm)) (sortE_srt l) (sortE_srt m)
theorem sortE_id {l : List Pr} (h : Srt l) : sortE l = l := srt_uniq (sortE_perm l) (sortE_srt l) h
theorem sortE_mem {l : List Pr} {p : Pr} : p ∈ sortE l ↔ p ∈ l := (sortE_perm l).mem_iff
theorem sortE_nodup {l : List Pr} : (sortE l).Nodup ↔ l.Nodup := (sortE_perm l).nodup_iff
theorem sortE_len (l : List Pr) : (sortE l).length = l.length := (sortE_perm l).length_eq
theorem Srt.filter {l : List Pr} (h : Srt l) (p : Pr → Bool) : Srt (l.filter p) := List.Pairwise.filter p h
def norm (p : Pr) : Pr := if p.1 < p.2 then p else (p.2, p.1)
theorem norm_lt {p : Pr} (h : p.1 < p.2) : norm p = p := if_pos h
theorem norm_gt {p : Pr} (h : ¬ p.1 < p.2) : norm p = (p.2, p.1) := if_neg h
theorem norm_swap {u v : Nat} (h : u ≠ v) : norm (u, v) = norm (v, u) := by
  unfold norm
  by_cases q : u < v
  · have : ¬ v < u := by omega
    simp [q, this]
  · have : v < u := by omega
    simp [q, this]
theorem norm_ord {p : Pr} (h : p.1 ≠ p.2) : (norm p).1 < (norm p).2 := by
  unfold norm; split
  · assumption
  · show p.2 < p.1; omega

/-! ### ints in order -/
def insN (p : Nat) : List Nat → List Nat
  | [] => [p]
  | q :: r => if q < p then q :: insN p r else p :: q :: r
def sortN : List Nat → List Nat
  | [] => []
  | p :: r => insN p (sortN r)
theorem insN_perm (p : Nat) : ∀ l, (insN p l).Perm (p :: l)
  | [] => .refl _
  | q :: r => by
    unfold insN
    split
    · exact ((insN_perm p r).cons q).trans (.swap p q r)
    · exact .refl _
theorem sortN_perm : ∀ l, (sortN l).Perm l
  | [] => .refl _
  | p :: r => (insN_perm p _).trans ((sortN_perm r).cons p)
abbrev SrtN (l : List Nat) : Prop := l.Pairwise (· ≤ ·)
theorem insN_srt (p : Nat) : ∀ {l}, SrtN l → SrtN (insN p l)
  | [], _ => List.pairwise_singleton _ _
  | q :: r, h => by
    have h' := List.pairwise_cons.mp h
    unfold insN
    split
    · rename_i hq
      refine List.pairwise_cons.mpr ⟨fun z hz => ?_, insN_srt p h'.2⟩
      rcases List.mem_cons.mp ((insN_perm p r).mem_iff.mp hz) with rfl | hz
      · omega
      · exact h'.1 z hz
    · rename_i hq
      refine List.pairwise_cons.mpr ⟨fun z hz => ?_, h⟩
      rcases List.mem_cons.mp hz with rfl | hz
      · omega
      · have h1 := h'.1 z hz
        omega
theorem sortN_srt : ∀ l, SrtN (sortN l)
  | [] => .nil
  | p :: r => insN_srt p (sortN_srt r)
theorem srtN_uniq : ∀ {l m : List Nat}, l.Perm m → SrtN l → SrtN m → l = m
  | [], m, h, _, _ => h.nil_eq
  | p :: l, [], h, _, _ => by have := h.length_eq; simp at this
  | p :: l, q :: m, h, hl, hm => by
    have hl' := List.pairwise_cons.mp hl
    have hm' := List.pairwise_cons.mp hm
    have e : p = q := by
      rcases List.mem_cons.mp (h.mem_iff.mp (List.mem_cons_self ..)) with e | h1
      · exact e
      · rcases List.mem_cons.mp (h.mem_iff.mpr (List.mem_cons_self ..)) with e | h2
        · exact e.symm
        · have a := hm'.1 p h1
          have b := hl'.1 q h2
          omega
    subst e
    rw [srtN_uniq (List.Perm.cons_inv h) hl'.2 hm'.2]

/-! ### neighbours -/
def nearOf (w : Nat) (E : List Pr) : List Nat := E.flatMap fun p => if p.1 = w then [p.2] else if p.2 = w then [p.1] else []
def lowOf (w : Nat) (E : List Pr) : List Nat := E.filterMap fun p => if p.2 = w then some p.1 else none
def near (n : Nat) (E : List Pr) : List (List Nat) := (List.range n).map (nearOf · E)
def lower (n : Nat) (E : List Pr) : List (List Nat) := (List.range n).map (lowOf · E)
theorem near_len (n : Nat) (E : List Pr) : (near n E).length = n := by unfold near; simp
theorem lower_len (n : Nat) (E : List Pr) : (lower n E).length = n := by unfold lower; simp
theorem near_at {n w : Nat} {E : List Pr} (h : w < n) : (near n E)[w]? = some (nearOf w E) := by
  unfold near; rw [List.getElem?_map, List.getElem?_range h]; rfl
theorem lower_at {n w : Nat} {E : List Pr} (h : w < n) : (lower n E)[w]? = some (lowOf w E) := by
  unfold lower; rw [List.getElem?_map, List.getElem?_range h]; rfl
theorem near_nil (n : Nat) : near n [] = List.replicate n [] := by
  apply List.ext_getElem?; intro i
  by_cases h : i < n
  · rw [near_at h, List.getElem?_replicate, if_pos h]; rfl
  · rw [List.getElem?_eq_none (by rw [near_len]; omega), List.getElem?_eq_none (by simp; omega)]
theorem lower_nil (n : Nat) : lower n [] = List.replicate n [] := by
  apply List.ext_getElem?; intro i
  by_cases h : i < n
  · rw [lower_at h, List.getElem?_replicate, if_pos h]; rfl
  · rw [List.getElem?_eq_none (by rw [lower_len]; omega), List.getElem?_eq_none (by simp; omega)]
theorem nearOf_app (w : Nat) (E F : List Pr) : nearOf w (E ++ F) = nearOf w E ++ nearOf w F := by unfold nearOf; rw [List.flatMap_append]
theorem lowOf_app (w : Nat) (E F : List Pr) : lowOf w (E ++ F) = lowOf w E ++ lowOf w F := by unfold lowOf; rw [List.filterMap_append]
theorem near_step {n u v : Nat} {E : List Pr} (hu : u < n) (hv : v < n) (h : u ≠ v) : near n (E ++ [(u, v)]) = ((near n E).set u (nearOf u E ++ [v])).set v (nearOf v E ++ [u]) := by
  apply List.ext_getElem?; intro i
  by_cases hi : i < n
  · rw [near_at hi, nearOf_app, List.getElem?_set, List.getElem?_set, near_at hi]
    simp only [List.length_set, near_len]
    have e : nearOf i [(u, v)] = if u = i then [v] else if v = i then [u] else [] := by unfold nearOf; simp
    rw [e]
    by_cases a : u = i
    · subst a
      have : ¬ v = u := fun z => h z.symm
      simp [this, hu]
    · by_cases b : v = i
      · subst b; simp [a, hv]
      · simp [a, b]
  · rw [List.getElem?_eq_none (by rw [near_len]; omega), List.getElem?_eq_none (by simp [near_len]; omega)]
theorem lower_step {n u v : Nat} {E : List Pr} (hv : v < n) : lower n (E ++ [(u, v)]) = (lower n E).set v (lowOf v E ++ [u]) := by
  apply List.ext_getElem?; intro i
  by_cases hi : i < n
  · rw [lower_at hi, lowOf_app, List.getElem?_set, lower_at hi]
    simp only [lower_len]
    have e : lowOf i [(u, v)] = if v = i then [u] else [] := by
      unfold lowOf; by_cases b : v = i <;> simp [b]
    rw [e]
    by_cases b : v = i
    · subst b; simp [hv]
    · simp [b]
  · rw [List.getElem?_eq_none (by rw [lower_len]; omega), List.getElem?_eq_none (by simp [lower_len]; omega)]
theorem mem_nearOf {w x : Nat} {E : List Pr} : x ∈ nearOf w E ↔ ∃ p ∈ E, (p.1 = w ∧ x = p.2) ∨ (p.1 ≠ w ∧ p.2 = w ∧ x = p.1) := by
  unfold nearOf
  rw [List.mem_flatMap]
  constructor
  · rintro ⟨p, hp, h⟩
    refine ⟨p, hp, ?_⟩
    split at h
    · simp at h; exact .inl ⟨by assumption, h⟩
    · split at h
      · simp at h; exact .inr ⟨by assumption, by assumption, h⟩
      · cases h
  · rintro ⟨p, hp, h⟩
    refine ⟨p, hp, ?_⟩
    rcases h with ⟨h1, h2⟩ | ⟨h1, h2, h3⟩
    · rw [if_pos h1]; simp [h2]
    · rw [if_neg h1, if_pos h2]; simp [h3]
theorem mem_lowOf {w x : Nat} {E : List Pr} : x ∈ lowOf w E ↔ (x, w) ∈ E := by
  unfold lowOf
  rw [List.mem_filterMap]
  constructor
  · rintro ⟨p, hp, h⟩
    split at h
    · rename_i e; cases h; subst e; exact hp
    · cases h
  · intro h; exact ⟨_, h, by simp⟩

/-! ### the search -/
def takenOf (L : List (List Nat)) (row : List Nat) : List Nat := (L.getD row.length []).map (row.getD · 0)
def mx : List Nat → Nat
  | [] => 0
  | c :: r => max (c + 1) (mx r)
theorem mx_app (a b : List Nat) : mx (a ++ b) = max (mx a) (mx b) := by
  induction a with
  | nil => simp [mx]
  | cons c r ih => simp only [List.cons_append, mx, ih]; omega
theorem mx_lt {row : List Nat} {c : Nat} (h : c ∈ row) : c < mx row := by
  induction row with
  | nil => cases h
  | cons d r ih =>
    rcases List.mem_cons.mp h with rfl | h
    · simp only [mx]; omega
    · have := ih h; simp only [mx]; omega
def topC (k : Nat) (row : List Nat) : Nat := min k (mx row + 1)
def free (L : List (List Nat)) (k : Nat) (row : List Nat) (s : Nat) : List Nat := (List.range (topC k row)).filter fun c => decide (s ≤ c) && !(takenOf L row).contains c
theorem mem_free {L : List (List Nat)} {k : Nat} {row : List Nat} {s c : Nat} : c ∈ free L k row s ↔ c < topC k row ∧ s ≤ c ∧ c ∉ takenOf L row := by
  unfold free; simp
theorem free_lt (L : List (List Nat)) (k : Nat) (row : List Nat) (s : Nat) : (free L k row s).Pairwise (· < ·) := List.Pairwise.filter _ List.pairwise_lt_range
theorem free_tail {L : List (List Nat)} {k : Nat} {row : List Nat} {s x : Nat} {cs : List Nat} (h : free L k row s = x :: cs) : free L k row (x + 1) = cs := by
  have hx : s ≤ x := (mem_free.mp (h ▸ List.mem_cons_self ..)).2.1
  have e : free L k row (x + 1) = (free L k row s).filter fun c => decide (x + 1 ≤ c) := by
    unfold free
    rw [List.filter_filter]
    apply List.filter_congr
    intro c _
    by_cases a : x + 1 ≤ c
    · have : s ≤ c := by omega
      simp [a, this]
    · simp [a]
  have hp := free_lt L k row s
  rw [e, h, List.filter_cons]
  rw [h] at hp
  have hp' := List.pairwise_cons.mp hp
  have : ¬ x + 1 ≤ x := by omega
  rw [if_neg (by simpa using this)]
  apply List.filter_eq_self.mpr
  intro c hc
  have := hp'.1 c hc
  exact decide_eq_true (by omega)
def tryAll {α : Type} (g : Nat → Option α × Nat) : List Nat → Option α × Nat
  | [] => (none, 0)
  | c :: cs => match g c with
    | (some r, n) => (some r, n)
    | (none, n) => ((tryAll g cs).1, n + (tryAll g cs).2)
def dfs (L : List (List Nat)) (k : Nat) : Nat → List Nat → Option (List Nat) × Nat
  | 0, row => (some row, 1)
  | f + 1, row => ((tryAll (fun c => dfs L k f (row ++ [c])) (free L k row 0)).1, (tryAll (fun c => dfs L k f (row ++ [c])) (free L k row 0)).2 + 1)
theorem dfs_pos (L : List (List Nat)) (k : Nat) : ∀ f row, 1 ≤ (dfs L k f row).2
  | 0, _ => Nat.le_refl _
  | f + 1, _ => Nat.le_add_left _ _
/-- the machine: at row, colours from s on are left; c states were seen; it ends with r, cf seen in all -/
inductive Run (L : List (List Nat)) (k n : Nat) : List Nat → Nat → Nat → Option (List Nat) → Nat → Nat → Prop
  | full {row s c} : row.length = n → Run L k n row s c (some row) c 0
  | push {row s c x r cf m} : row.length < n → (free L k row s).head? = some x → Run L k n (row ++ [x]) 0 (c + 1) r cf m → Run L k n row s c r cf (m + 1)
  | pop {row s c y r cf m} : row.length < n → (free L k row s).head? = none → row.getLast? = some y → Run L k n row.dropLast (y + 1) c r cf m → Run L k n row s c r cf (m + 1)
  | stop {s c} : 0 < n → (free L k [] s).head? = none → Run L k n [] s c none c 0
theorem Run.mono {L : List (List Nat)} {k n : Nat} {row : List Nat} {s c : Nat} {r : Option (List Nat)} {cf m : Nat} (h : Run L k n row s c r cf m) : c ≤ cf := by
  induction h with
  | full => exact Nat.le_refl _
  | push _ _ _ ih => omega
  | pop _ _ _ _ ih => exact ih
  | stop => exact Nat.le_refl _
/-- what follows once everything from row on has failed -/
def After (L : List (List Nat)) (k n : Nat) (row : List Nat) (c : Nat) (r : Option (List Nat)) (cf : Nat) : Prop :=
  match row.getLast? with
  | some y => ∃ m, Run L k n row.dropLast (y + 1) c r cf m
  | none => r = none ∧ cf = c
theorem run_all {L : List (List Nat)} {k n : Nat} : ∀ (f : Nat) (row : List Nat) (c : Nat), row.length + f = n →
    (∀ r, (dfs L k f row).1 = some r → ∃ m, Run L k n row 0 c (some r) (c + (dfs L k f row).2 - 1) m) ∧
    ((dfs L k f row).1 = none → ∀ r cf, After L k n row (c + (dfs L k f row).2 - 1) r cf → ∃ m, Run L k n row 0 c r cf m)
  | 0, row, c, hl => ⟨fun r h => by
      cases h
      exact ⟨0, by have := Run.full (L := L) (k := k) (n := n) (row := row) (s := 0) (c := c) (by omega); simpa [dfs] using this⟩, fun h => by cases h⟩
  | f + 1, row, c, hl => by
    have hlt : row.length < n := by omega
    have key : ∀ (len s c : Nat), (free L k row s).length = len →
        (∀ r, (tryAll (fun c => dfs L k f (row ++ [c])) (free L k row s)).1 = some r → ∃ m, Run L k n row s c (some r) (c + (tryAll (fun c => dfs L k f (row ++ [c])) (free L k row s)).2) m) ∧
        ((tryAll (fun c => dfs L k f (row ++ [c])) (free L k row s)).1 = none → ∀ r cf, After L k n row (c + (tryAll (fun c => dfs L k f (row ++ [c])) (free L k row s)).2) r cf → ∃ m, Run L k n row s c r cf m) := by
      intro len
      induction len with
      | zero =>
        intro s c hlen
        have e : free L k row s = [] := List.length_eq_zero_iff.mp hlen
        rw [e]
        refine ⟨fun r h => (by cases h), fun _ r cf h => ?_⟩
        unfold After at h
        cases q : row.getLast? with
        | none =>
          rw [q] at h
          obtain ⟨rfl, rfl⟩ := h
          have : row = [] := List.getLast?_eq_none_iff.mp q
          subst this
          exact ⟨0, .stop (by omega) (by rw [e]; rfl)⟩
        | some y =>
          rw [q] at h
          obtain ⟨m, h⟩ := h
          exact ⟨m + 1, .pop hlt (by rw [e]; rfl) q h⟩
      | succ len ih =>
        intro s c hlen
        obtain ⟨x, cs, e⟩ : ∃ x cs, free L k row s = x :: cs := by
          cases q : free L k row s with
          | nil => rw [q] at hlen; cases hlen
          | cons x cs => exact ⟨x, cs, rfl⟩
        have et := free_tail e
        have hcs : (free L k row (x + 1)).length = len := by rw [et]; rw [e] at hlen; simpa using hlen
        obtain ⟨i1, i2⟩ := run_all (L := L) (k := k) (n := n) f (row ++ [x]) (c + 1) (by rw [List.length_append, List.length_singleton]; omega)
        have hd : (free L k row s).head? = some x := by rw [e]; rfl
        rw [e]
        cases q : dfs L k f (row ++ [x]) with
        | mk o cn =>
          have hpos := dfs_pos L k f (row ++ [x])
          rw [q] at i1 i2 hpos
          have hpos' : 1 ≤ cn := hpos
          cases o with
          | some r0 =>
            have et2 : tryAll (fun c => dfs L k f (row ++ [c])) (x :: cs) = (some r0, cn) := by unfold tryAll; simp only [q]
            rw [et2]
            refine ⟨fun r h => ?_, fun h => by cases h⟩
            cases h
            obtain ⟨m, hm⟩ := i1 r0 rfl
            have e2 : c + 1 + cn - 1 = c + cn := by omega
            refine ⟨m + 1, .push hlt hd ?_⟩
            have hm' : Run L k n (row ++ [x]) 0 (c + 1) (some r0) (c + 1 + cn - 1) m := hm
            rw [e2] at hm'
            exact hm'
          | none =>
            have et2 : tryAll (fun c => dfs L k f (row ++ [c])) (x :: cs) = ((tryAll (fun c => dfs L k f (row ++ [c])) cs).1, cn + (tryAll (fun c => dfs L k f (row ++ [c])) cs).2) := by
              rw [tryAll]; simp only [q]
            rw [et2]
            have i2' := i2 rfl
            have e2 : c + 1 + cn - 1 = c + cn := by omega
            have back : ∀ r cf, (∃ m, Run L k n row (x + 1) (c + cn) r cf m) → ∃ m, Run L k n row s c r cf m := fun r cf ⟨m, h⟩ => by
              obtain ⟨m', h'⟩ := i2' r cf (by
                unfold After
                rw [List.getLast?_concat, List.dropLast_concat]
                refine ⟨m, ?_⟩
                show Run L k n row (x + 1) (c + 1 + cn - 1) r cf m
                rw [e2]; exact h)
              exact ⟨m' + 1, .push hlt hd h'⟩
            obtain ⟨j1, j2⟩ := ih (x + 1) (c + cn) hcs
            rw [et] at j1 j2
            refine ⟨fun r h => ?_, fun h r cf ha => ?_⟩
            · have := back (some r) _ (j1 r h)
              rw [Nat.add_assoc] at this
              exact this
            · refine back r cf (j2 h r cf ?_)
              rw [Nat.add_assoc]; exact ha
    obtain ⟨k1, k2⟩ := key _ 0 c rfl
    have e : (dfs L k (f + 1) row).2 = (tryAll (fun c => dfs L k f (row ++ [c])) (free L k row 0)).2 + 1 := rfl
    have e1 : c + (dfs L k (f + 1) row).2 - 1 = c + (tryAll (fun c => dfs L k f (row ++ [c])) (free L k row 0)).2 := by rw [e]; omega
    rw [e1]
    exact ⟨k1, k2⟩
theorem run_dfs (L : List (List Nat)) (k n : Nat) : ∃ m, Run L k n [] 0 1 (dfs L k n []).1 (dfs L k n []).2 m := by
  obtain ⟨h1, h2⟩ := run_all (L := L) (k := k) (n := n) n [] 1 (by simp)
  have hp := dfs_pos L k n []
  have e : 1 + (dfs L k n []).2 - 1 = (dfs L k n []).2 := by omega
  rw [e] at h1 h2
  cases q : (dfs L k n []).1 with
  | some r => exact h1 r q
  | none => exact h2 q none _ ⟨rfl, rfl⟩
def firstCol (n : Nat) (E : List Pr) (k : Nat) : Option (List Nat) := (dfs (lower n E) k n []).1
def cnt (n : Nat) (E : List Pr) (k : Nat) : Nat := (dfs (lower n E) k n []).2
end CM
end
section
set_option linter.all false
/-! CM2: the search finds a colouring just when there is one. Plain Lean. -/
namespace CM
def Col (n : Nat) (E : List Pr) (k : Nat) : Prop := ∃ f : Nat → Nat, (∀ v, v < n → f v < k) ∧ ∀ p ∈ E, f p.1 ≠ f p.2
/-- edges in order, inside n -/
abbrev Up (n : Nat) (E : List Pr) : Prop := ∀ p ∈ E, p.1 < p.2 ∧ p.2 < n
theorem tryAll_some {α : Type} {g : Nat → Option α × Nat} : ∀ {cs : List Nat}, (∃ c ∈ cs, (g c).1 ≠ none) → (tryAll g cs).1 ≠ none
  | [], h => by obtain ⟨c, hc, _⟩ := h; cases hc
  | c :: cs, h => by
    unfold tryAll
    cases q : g c with
    | mk a b =>
      cases a with
      | some r => simp
      | none =>
        simp only
        refine tryAll_some ?_
        obtain ⟨d, hd, h2⟩ := h
        rcases List.mem_cons.mp hd with rfl | hd
        · rw [q] at h2; exact absurd rfl h2
        · exact ⟨d, hd, h2⟩
theorem tryAll_from {α : Type} {g : Nat → Option α × Nat} {r : α} : ∀ {cs : List Nat}, (tryAll g cs).1 = some r → ∃ c ∈ cs, (g c).1 = some r
  | [], h => by cases h
  | c :: cs, h => by
    unfold tryAll at h
    cases q : g c with
    | mk a b =>
      rw [q] at h
      cases a with
      | some r' => simp only [Option.some.injEq] at h; subst h; exact ⟨c, List.mem_cons_self .., by rw [q]⟩
      | none =>
        obtain ⟨d, hd, h2⟩ := tryAll_from (cs := cs) h
        exact ⟨d, List.mem_cons_of_mem _ hd, h2⟩
structure Prop' (E : List Pr) (k : Nat) (row : List Nat) : Prop where
  lt : ∀ c ∈ row, c < k
  ne : ∀ p ∈ E, p.2 < row.length → row.getD p.1 0 ≠ row.getD p.2 0
theorem getD_app {row : List Nat} {c i : Nat} (h : i < row.length) : (row ++ [c]).getD i 0 = row.getD i 0 := by
  rw [List.getD_eq_getElem?_getD, List.getD_eq_getElem?_getD, List.getElem?_append_left h]
theorem getD_last {row : List Nat} {c : Nat} : (row ++ [c]).getD row.length 0 = c := by
  rw [List.getD_eq_getElem?_getD, List.getElem?_append_right (Nat.le_refl _)]; simp
theorem lower_getD {n i : Nat} {E : List Pr} (h : i < n) : (lower n E).getD i [] = lowOf i E := by
  rw [List.getD_eq_getElem?_getD, lower_at h]; rfl
theorem dfs_sound {n k : Nat} {E : List Pr} (up : Up n E) : ∀ (f : Nat) (row : List Nat), row.length + f = n → Prop' E k row → ∀ r, (dfs (lower n E) k f row).1 = some r → Prop' E k r ∧ r.length = n
  | 0, row, hl, hp, r, h => by
    cases h; exact ⟨hp, by omega⟩
  | f + 1, row, hl, hp, r, h => by
    obtain ⟨c, hc, h2⟩ := tryAll_from (g := fun c => dfs (lower n E) k f (row ++ [c])) h
    obtain ⟨c1, _, c3⟩ := mem_free.mp hc
    refine dfs_sound up f (row ++ [c]) (by simp; omega) ⟨fun d hd => ?_, fun p hp' hlt => ?_⟩ r h2
    · rcases List.mem_append.mp hd with hd | hd
      · exact hp.lt d hd
      · simp at hd; subst hd; unfold topC at c1; omega
    · obtain ⟨u1, u2⟩ := up p hp'
      rw [List.length_append, List.length_singleton] at hlt
      by_cases e : p.2 = row.length
      · rw [getD_app (by omega), e, getD_last]
        intro e2
        refine c3 ?_
        unfold takenOf
        rw [lower_getD (by omega)]
        refine List.mem_map.mpr ⟨p.1, mem_lowOf.mpr ?_, e2⟩
        rw [← e]; exact hp'
      · rw [getD_app (by omega), getD_app (by omega)]
        exact hp.ne p hp' (by omega)
def swp (a b x : Nat) : Nat := if x = a then b else if x = b then a else x
theorem swp_inj {a b x y : Nat} (h : swp a b x = swp a b y) : x = y := by
  unfold swp at h
  split at h <;> split at h <;> (try split at h) <;> (try split at h) <;> omega
theorem dfs_comp {n k : Nat} {E : List Pr} (up : Up n E) : ∀ (f : Nat) (row : List Nat), row.length + f = n → ∀ g : Nat → Nat, (∀ v, v < n → g v < k) → (∀ p ∈ E, g p.1 ≠ g p.2) → (∀ i, i < row.length → g i = row.getD i 0) → (dfs (lower n E) k f row).1 ≠ none
  | 0, row, hl, g, h1, h2, h3 => by simp [dfs]
  | f + 1, row, hl, g, h1, h2, h3 => by
    have key : ∀ g : Nat → Nat, (∀ v, v < n → g v < k) → (∀ p ∈ E, g p.1 ≠ g p.2) → (∀ i, i < row.length → g i = row.getD i 0) → g row.length < topC k row → (dfs (lower n E) k (f + 1) row).1 ≠ none := by
      intro g h1 h2 h3 h4
      show (tryAll (fun c => dfs (lower n E) k f (row ++ [c])) (free (lower n E) k row 0)).1 ≠ none
      refine tryAll_some ⟨g row.length, mem_free.mpr ⟨h4, Nat.zero_le _, fun hm => ?_⟩, ?_⟩
      · unfold takenOf at hm
        rw [lower_getD (by omega)] at hm
        obtain ⟨u, hu, e⟩ := List.mem_map.mp hm
        have hE := mem_lowOf.mp hu
        have hlt := (up _ hE).1
        have := h2 _ hE
        simp only at hlt this
        rw [h3 u hlt] at this
        exact this e
      · refine dfs_comp up f (row ++ [g row.length]) (by simp; omega) g h1 h2 (fun i hi => ?_)
        rw [List.length_append, List.length_singleton] at hi
        by_cases e : i = row.length
        · rw [e, getD_last]
        · rw [getD_app (by omega)]; exact h3 i (by omega)
    by_cases h4 : g row.length < topC k row
    · exact key g h1 h2 h3 h4
    · have hk := h1 row.length (by omega)
      have hm : mx row < g row.length := by unfold topC at h4; omega
      refine key (fun v => swp (mx row) (g row.length) (g v)) (fun v hv => ?_) (fun p hp e => h2 p hp (swp_inj e)) (fun i hi => ?_) ?_
      · have := h1 v hv
        unfold swp; split
        · exact hk
        · split <;> omega
      · have e := h3 i hi
        have hmem : row.getD i 0 ∈ row := by
          rw [List.getD_eq_getElem?_getD, List.getElem?_eq_getElem hi]; exact List.getElem_mem hi
        have hlt := mx_lt hmem
        show swp (mx row) (g row.length) (g i) = row.getD i 0
        rw [e]
        unfold swp
        rw [if_neg (by omega), if_neg (by omega)]
      · show swp (mx row) (g row.length) (g row.length) < topC k row
        unfold swp topC
        rw [if_neg (by omega), if_pos rfl]
        omega
theorem first_iff {n k : Nat} {E : List Pr} (up : Up n E) : (firstCol n E k).isSome = true ↔ Col n E k := by
  unfold firstCol
  constructor
  · intro h
    obtain ⟨r, hr⟩ := Option.isSome_iff_exists.mp h
    obtain ⟨hp, hl⟩ := dfs_sound up n [] (by simp) ⟨fun c hc => (by cases hc), fun p _ h => (by cases h)⟩ r hr
    refine ⟨fun v => r.getD v 0, fun v hv => hp.lt _ ?_, fun p hp' => hp.ne p hp' (by rw [hl]; exact (up p hp').2)⟩
    show r.getD v 0 ∈ r
    rw [List.getD_eq_getElem?_getD, List.getElem?_eq_getElem (by omega)]; exact List.getElem_mem _
  · rintro ⟨g, h1, h2⟩
    have := dfs_comp up n [] (by simp) g h1 h2 (fun i hi => by cases hi)
    cases q : (dfs (lower n E) k n []).1 with
    | none => exact absurd q this
    | some r => rfl
theorem first_none {n k : Nat} {E : List Pr} (up : Up n E) : firstCol n E k = none ↔ ¬ Col n E k := by
  rw [← first_iff up]
  cases firstCol n E k <;> simp
end CM
end
section
set_option linter.all false
/-! CM3: how many states the search can see. Plain Lean. -/
namespace CM
def tot (L : List (List Nat)) (k : Nat) : Nat → List Nat → Nat
  | 0, _ => 1
  | f + 1, row => 1 + ((free L k row 0).map fun c => tot L k f (row ++ [c])).sum
theorem sum_le {α : Type} {g h : α → Nat} : ∀ (l : List α), (∀ x ∈ l, g x ≤ h x) → (l.map g).sum ≤ (l.map h).sum
  | [], _ => Nat.le_refl _
  | x :: l, q => by
    simp only [List.map_cons, List.sum_cons]
    have := q x (List.mem_cons_self ..)
    have := sum_le l fun y hy => q y (List.mem_cons_of_mem _ hy)
    omega
theorem tryAll_le {α : Type} {g : Nat → Option α × Nat} : ∀ (cs : List Nat), (tryAll g cs).2 ≤ (cs.map fun c => (g c).2).sum
  | [] => Nat.le_refl _
  | c :: cs => by
    have ih := tryAll_le (g := g) cs
    unfold tryAll
    cases q : g c with
    | mk a b =>
      cases a with
      | some r => simp only [List.map_cons, List.sum_cons, q]; omega
      | none => simp only [List.map_cons, List.sum_cons, q]; omega
theorem dfs_tot (L : List (List Nat)) (k : Nat) : ∀ f row, (dfs L k f row).2 ≤ tot L k f row
  | 0, _ => Nat.le_refl _
  | f + 1, row => by
    show (tryAll (fun c => dfs L k f (row ++ [c])) (free L k row 0)).2 + 1 ≤ 1 + _
    have h1 := tryAll_le (g := fun c => dfs L k f (row ++ [c])) (free L k row 0)
    have h2 := sum_le (g := fun c => (dfs L k f (row ++ [c])).2) (h := fun c => tot L k f (row ++ [c])) (free L k row 0) fun c _ => dfs_tot L k f (row ++ [c])
    omega
theorem cnt_tot (n : Nat) (E : List Pr) (k : Nat) : cnt n E k ≤ tot (lower n E) k n [] := dfs_tot _ _ _ _
structure Val (k : Nat) (row : List Nat) : Prop where
  lt : ∀ c ∈ row, c < k
  mx : mx row ≤ row.length
theorem Val.nil (k : Nat) : Val k [] := ⟨fun c h => (by cases h), Nat.le_refl _⟩
theorem Val.app {k : Nat} {row : List Nat} {L : List (List Nat)} (v : Val k row) {c : Nat} (h : c ∈ free L k row 0) : Val k (row ++ [c]) := by
  have h1 := (mem_free.mp h).1
  refine ⟨fun d hd => ?_, ?_⟩
  · rcases List.mem_append.mp hd with hd | hd
    · exact v.lt d hd
    · simp at hd; subst hd; unfold topC at h1; omega
  · rw [mx_app, List.length_append, List.length_singleton]
    have := v.mx
    simp only [CM.mx]
    unfold topC at h1
    omega
theorem mx_le {k : Nat} {row : List Nat} (h : ∀ c ∈ row, c < k) : mx row ≤ k := by
  induction row with
  | nil => exact Nat.zero_le _
  | cons c r ih =>
    simp only [mx]
    have := h c (List.mem_cons_self ..)
    have := ih fun d hd => h d (List.mem_cons_of_mem _ hd)
    omega
/-- all words, colours up to their names -/
def Cw (k : Nat) : Nat → Nat → Nat
  | 0, _ => 1
  | j + 1, m => 1 + (min m k * Cw k j m + if m < k then Cw k j (m + 1) else 0)
theorem sum_filter {g : Nat → Nat} (p : Nat → Bool) : ∀ l : List Nat, ((l.filter p).map g).sum ≤ (l.map g).sum
  | [] => Nat.le_refl _
  | x :: l => by
    have := sum_filter (g := g) p l
    rw [List.filter_cons]
    split <;> simp only [List.map_cons, List.sum_cons] <;> omega
theorem sum_const {g : Nat → Nat} {b : Nat} : ∀ l : List Nat, (∀ x ∈ l, g x = b) → (l.map g).sum = l.length * b
  | [], _ => by simp
  | x :: l, h => by
    rw [List.map_cons, List.sum_cons, h x (List.mem_cons_self ..), sum_const l fun y hy => h y (List.mem_cons_of_mem _ hy), List.length_cons, Nat.succ_mul]; omega
theorem tot_Cw (L : List (List Nat)) (k : Nat) : ∀ f row, Val k row → tot L k f row ≤ Cw k f (mx row)
  | 0, _, _ => Nat.le_refl _
  | f + 1, row, v => by
    have hm := mx_le v.lt
    show 1 + _ ≤ 1 + _
    refine Nat.add_le_add_left ?_ 1
    refine Nat.le_trans (sum_le (h := fun c => Cw k f (max (mx row) (c + 1))) _ fun c hc => ?_) (Nat.le_trans (sum_filter _ _) ?_)
    · have := tot_Cw L k f (row ++ [c]) (v.app hc)
      rw [mx_app] at this
      have e : mx [c] = c + 1 := by simp [mx]
      rw [e] at this
      exact this
    · by_cases h : mx row < k
      · have e : topC k row = mx row + 1 := by unfold topC; omega
        rw [e, List.range_succ, List.map_append, List.sum_append, if_pos h]
        rw [sum_const (b := Cw k f (mx row)) (List.range (mx row)) fun c hc => by
          rw [List.mem_range] at hc
          rw [Nat.max_eq_left (by omega)]]
        have e2 : min (mx row) k = mx row := by omega
        rw [e2, List.length_range]
        simp
      · have e : topC k row = k := by unfold topC; omega
        have e2 : min (mx row) k = k := by omega
        rw [e, e2, if_neg h, sum_const (b := Cw k f (mx row)) (List.range k) fun c hc => by
          rw [List.mem_range] at hc
          rw [Nat.max_eq_left (by omega)], List.length_range]
        omega
theorem cnt_Cw (n : Nat) (E : List Pr) (k : Nat) : cnt n E k ≤ Cw k n 0 := Nat.le_trans (cnt_tot n E k) (tot_Cw _ _ _ _ (.nil k))
/-! ### a bound for each node -/
def Bd : List Nat → Nat
  | [] => 1
  | c :: cs => 1 + c * Bd cs
theorem sum_le_const {α : Type} {g : α → Nat} {b : Nat} : ∀ l : List α, (∀ x ∈ l, g x ≤ b) → (l.map g).sum ≤ l.length * b
  | [], _ => by simp
  | x :: l, h => by
    rw [List.map_cons, List.sum_cons, List.length_cons, Nat.succ_mul]
    have := h x (List.mem_cons_self ..)
    have := sum_le_const l fun y hy => h y (List.mem_cons_of_mem _ hy)
    omega
theorem tot_Bd (L : List (List Nat)) (k : Nat) : ∀ (cs : List Nat) (row : List Nat), Val k row → (∀ row' j, Val k row' → cs[j]? ≠ none → row'.length = row.length + j → (free L k row' 0).length ≤ cs.getD j 0) → tot L k cs.length row ≤ Bd cs
  | [], _, _, _ => Nat.le_refl _
  | c :: cs, row, v, h => by
    show 1 + _ ≤ 1 + _
    refine Nat.add_le_add_left ?_ 1
    have hf : (free L k row 0).length ≤ c := by
      have := h row 0 v (by simp) rfl
      simpa using this
    refine Nat.le_trans (sum_le_const (b := Bd cs) _ fun d hd => ?_) (Nat.mul_le_mul_right _ hf)
    refine tot_Bd L k cs (row ++ [d]) (v.app hd) fun row' j v' hj hl => ?_
    have := h row' (j + 1) v' (by simpa using hj) (by rw [hl, List.length_append, List.length_singleton]; omega)
    simpa using this
def cI (k : Nat) (E : List Pr) (i : Nat) : Nat := min k (i + 1) - if lowOf i E = [] then 0 else 1
theorem free_cI {n k : Nat} {E : List Pr} (up : Up n E) {row : List Nat} (v : Val k row) (h : row.length < n) : (free (lower n E) k row 0).length ≤ cI k E row.length := by
  have ht : topC k row ≤ min k (row.length + 1) := by have := v.mx; unfold topC; omega
  unfold cI
  by_cases e : lowOf row.length E = []
  · rw [if_pos e]
    have : (free (lower n E) k row 0).length ≤ topC k row := by
      unfold free
      exact Nat.le_trans (List.length_filter_le _ _) (by rw [List.length_range]; exact Nat.le_refl _)
    omega
  · rw [if_neg e]
    obtain ⟨u, hu⟩ := List.exists_mem_of_ne_nil _ e
    have hE := mem_lowOf.mp hu
    have hlt := (up _ hE).1
    simp only at hlt
    have hmem : row.getD u 0 ∈ row := by
      rw [List.getD_eq_getElem?_getD, List.getElem?_eq_getElem hlt]; exact List.getElem_mem hlt
    have h1 := mx_lt hmem
    have h2 := v.lt _ hmem
    have : (free (lower n E) k row 0).length < (List.range (topC k row)).length := by
      unfold free
      refine List.length_filter_lt_length_iff_exists.mpr ⟨row.getD u 0, List.mem_range.mpr (by unfold topC; omega), ?_⟩
      have : (takenOf (lower n E) row).contains (row.getD u 0) = true := by
        rw [List.contains_eq_mem, decide_eq_true_eq]
        unfold takenOf
        rw [lower_getD h]
        exact List.mem_map.mpr ⟨u, hu, rfl⟩
      rw [this]; simp
    rw [List.length_range] at this
    omega
theorem tot_cI {n k m f : Nat} {E : List Pr} (up : Up n E) {row : List Nat} (v : Val k row) (hm : row.length = m) (hf : m + f = n) : tot (lower n E) k f row ≤ Bd ((List.range f).map fun j => cI k E (m + j)) := by
  have h := tot_Bd (lower n E) k ((List.range f).map fun j => cI k E (m + j)) row v fun row' j v' hj hl => by
    have hlt : j < f := by
      rcases Nat.lt_or_ge j f with q | q
      · exact q
      · exfalso; apply hj; rw [List.getElem?_eq_none]; simp; exact q
    have := free_cI up v' (by omega : row'.length < n)
    rw [List.getD_eq_getElem?_getD, List.getElem?_map, List.getElem?_range hlt]
    rw [hl, hm] at this
    exact this
  rw [List.length_map, List.length_range] at h
  exact h
theorem cnt_cI {n k : Nat} {E : List Pr} (up : Up n E) : cnt n E k ≤ Bd ((List.range n).map (cI k E)) := by
  have h := tot_cI (m := 0) (f := n) up (Val.nil k) rfl (Nat.zero_add n)
  simp only [Nat.zero_add] at h
  exact Nat.le_trans (cnt_tot n E k) h
/-! ### the first rows counted one by one -/
def nxt (L : List (List Nat)) (k : Nat) (rows : List (List Nat)) : List (List Nat) := rows.flatMap fun row => (free L k row 0).map fun c => row ++ [c]
def lev (L : List (List Nat)) (k : Nat) : Nat → List (List Nat)
  | 0 => [[]]
  | j + 1 => nxt L k (lev L k j)
theorem lev_val (L : List (List Nat)) (k : Nat) : ∀ j, ∀ row ∈ lev L k j, Val k row ∧ row.length = j
  | 0, row, h => by
    simp [lev] at h; subst h; exact ⟨.nil k, rfl⟩
  | j + 1, row, h => by
    obtain ⟨r, hr, h2⟩ := List.mem_flatMap.mp h
    obtain ⟨c, hc, rfl⟩ := List.mem_map.mp h2
    obtain ⟨a, b⟩ := lev_val L k j r hr
    exact ⟨a.app hc, by simp [b]⟩
theorem sum_flat {α β : Type} (g : β → Nat) (h : α → List β) : ∀ l : List α, ((l.flatMap h).map g).sum = (l.map fun x => ((h x).map g).sum).sum
  | [] => rfl
  | x :: l => by rw [List.flatMap_cons, List.map_append, List.sum_append, sum_flat g h l, List.map_cons, List.sum_cons]
theorem sum_add {α : Type} (g : α → Nat) : ∀ l : List α, (l.map fun x => 1 + g x).sum = l.length + (l.map g).sum
  | [] => rfl
  | x :: l => by rw [List.map_cons, List.sum_cons, sum_add g l, List.map_cons, List.sum_cons, List.length_cons]; omega
theorem tot_step (L : List (List Nat)) (k f : Nat) (rows : List (List Nat)) : (rows.map (tot L k (f + 1))).sum = rows.length + ((nxt L k rows).map (tot L k f)).sum := by
  unfold nxt
  rw [sum_flat, ← sum_add]
  congr 1
  apply List.map_congr_left
  intro row _
  show 1 + _ = 1 + _
  rw [List.map_map]; rfl
theorem tot_lev (L : List (List Nat)) (k : Nat) : ∀ (m f : Nat), tot L k (m + f) [] = ((List.range m).map fun j => (lev L k j).length).sum + ((lev L k m).map (tot L k f)).sum
  | 0, f => by simp [lev]
  | m + 1, f => by
    have h := tot_lev L k m (f + 1)
    rw [tot_step] at h
    have e : m + 1 + f = m + (f + 1) := by omega
    rw [e, h, List.range_succ, List.map_append, List.sum_append]
    simp only [List.map_cons, List.map_nil, List.sum_cons, List.sum_nil, lev]
    omega
theorem free_congr {L L' : List (List Nat)} {k : Nat} {row : List Nat} (h : L.getD row.length [] = L'.getD row.length []) : free L k row 0 = free L' k row 0 := by
  unfold free takenOf; rw [h]
theorem lev_congr {L L' : List (List Nat)} {k : Nat} : ∀ (m : Nat), (∀ i, i < m → L.getD i [] = L'.getD i []) → lev L k m = lev L' k m
  | 0, _ => rfl
  | m + 1, h => by
    show nxt L k (lev L k m) = nxt L' k (lev L' k m)
    rw [lev_congr m fun i hi => h i (by omega)]
    unfold nxt
    have : ∀ rows : List (List Nat), (∀ row ∈ rows, row.length = m) → (rows.flatMap fun row => (free L k row 0).map fun c => row ++ [c]) = rows.flatMap fun row => (free L' k row 0).map fun c => row ++ [c] := by
      intro rows
      induction rows with
      | nil => intro _; rfl
      | cons r rs ih =>
        intro hr
        rw [List.flatMap_cons, List.flatMap_cons, ih fun x hx => hr x (List.mem_cons_of_mem _ hx), free_congr (L := L) (L' := L') (by rw [hr r (List.mem_cons_self ..)]; exact h m (by omega))]
    exact this _ fun row hr => (lev_val L' k m row hr).2
/-- a bound by the rows of the first m nodes, which E0 tells, and a bound for each node after them -/
theorem cnt_pre {n k m f b : Nat} {E E0 : List Pr} (up : Up n E) (hn : m + f = n) (h0 : ∀ i, i < m → lowOf i E = lowOf i E0) (hb : Bd ((List.range f).map fun j => cI k E (m + j)) ≤ b) :
    cnt n E k ≤ ((List.range m).map fun j => (lev (lower m E0) k j).length).sum + (lev (lower m E0) k m).length * b := by
  have hl : ∀ j, j ≤ m → lev (lower n E) k j = lev (lower m E0) k j := fun j hj => lev_congr j fun i hi => by
    rw [lower_getD (by omega), lower_getD (by omega)]; exact h0 i (by omega)
  refine Nat.le_trans (cnt_tot n E k) ?_
  rw [← hn, tot_lev]
  rw [hn]
  refine Nat.add_le_add (Nat.le_of_eq ?_) ?_
  · congr 1
    apply List.map_congr_left
    intro j hj
    rw [List.mem_range] at hj
    rw [hl j (by omega)]
  · rw [← hl m (Nat.le_refl _)]
    refine sum_le_const _ fun row hr => ?_
    obtain ⟨v, hlen⟩ := lev_val _ _ _ row hr
    exact Nat.le_trans (tot_cI up v hlen hn) hb
end CM
end
section
set_option linter.all false
set_option maxRecDepth 100000
/-! CM4: bounds by masks. Plain Lean. -/
namespace CM
def masks : Nat → List (List Bool)
  | 0 => [[]]
  | n + 1 => (masks n).flatMap fun m => [true :: m, false :: m]
theorem mem_masks : ∀ zs : List Bool, zs ∈ masks zs.length
  | [] => List.mem_cons_self ..
  | z :: zs => by
    refine List.mem_flatMap.mpr ⟨zs, mem_masks zs, ?_⟩
    cases z <;> simp
def csM (k : Nat) : Nat → List Bool → List Nat
  | _, [] => []
  | i, z :: zs => (min k (i + 1) - if z = true then 0 else 1) :: csM k (i + 1) zs
theorem csM_eq (k : Nat) (E : List Pr) : ∀ (f m : Nat), ((List.range f).map fun j => cI k E (m + j)) = csM k m ((List.range f).map fun j => decide (lowOf (m + j) E = []))
  | 0, _ => rfl
  | f + 1, m => by
    rw [List.range_succ_eq_map, List.map_cons, List.map_cons, List.map_map, List.map_map]
    simp only [csM]
    congr 1
    · unfold cI
      simp
    · have := csM_eq k E f (m + 1)
      have e1 : ((fun j => cI k E (m + j)) ∘ Nat.succ) = fun j => cI k E (m + 1 + j) := by
        funext j; show cI k E (m + (j + 1)) = _; congr 1; omega
      have e2 : ((fun j => decide (lowOf (m + j) E = [])) ∘ Nat.succ) = fun j => decide (lowOf (m + 1 + j) E = []) := by
        funext j; show decide (lowOf (m + (j + 1)) E = []) = _
        have : m + (j + 1) = m + 1 + j := by omega
        rw [this]
      rw [e1, e2]; exact this
def nF (zs : List Bool) : Nat := zs.countP (fun z => !z)
theorem nodup_le {α : Type} [DecidableEq α] : ∀ {I m : List α}, I.Nodup → (∀ x ∈ I, x ∈ m) → I.length ≤ m.length
  | [], m, _, _ => Nat.zero_le _
  | a :: I, m, h, s => by
    have h' := List.nodup_cons.mp h
    have ha := s a (List.mem_cons_self ..)
    have := nodup_le (I := I) (m := m.erase a) h'.2 fun x hx => by
      refine (List.mem_erase_of_ne ?_).mpr (s x (List.mem_cons_of_mem _ hx))
      rintro rfl; exact h'.1 hx
    rw [List.length_erase_of_mem ha] at this
    have := List.length_pos_of_mem ha
    rw [List.length_cons]; omega
/-- the nodes of I, all with a lower neighbour, count -/
theorem nF_ge {E : List Pr} {m f : Nat} {I : List Nat} (h : I.Nodup) (hI : ∀ i ∈ I, m ≤ i ∧ i < m + f ∧ lowOf i E ≠ []) : I.length ≤ nF ((List.range f).map fun j => decide (lowOf (m + j) E = [])) := by
  unfold nF
  rw [List.countP_map, List.countP_eq_length_filter]
  have hn : (I.map fun i => i - m).Nodup := by
    rw [List.Nodup, List.pairwise_map]
    refine List.Pairwise.imp_of_mem ?_ h
    intro a b ha hb hab
    have := hI a ha; have := hI b hb; omega
  have := nodup_le (I := I.map fun i => i - m) (m := (List.range f).filter ((fun z => !z) ∘ fun j => decide (lowOf (m + j) E = []))) hn fun x hx => by
    obtain ⟨i, hi, rfl⟩ := List.mem_map.mp hx
    obtain ⟨a, b, c⟩ := hI i hi
    refine List.mem_filter.mpr ⟨List.mem_range.mpr (by omega), ?_⟩
    show (!decide (lowOf (m + (i - m)) E = [])) = true
    have e : m + (i - m) = i := by omega
    rw [e, decide_eq_false c]; rfl
  rwa [List.length_map] at this
theorem mskA : ∀ zs ∈ masks 9, 4 ≤ nF zs → Bd (csM 3 0 (zs ++ [false])) ≤ 5000 := by decide +kernel
theorem mskB : ∀ zs ∈ masks 8, (6 ≤ nF zs → Bd (csM 3 4 zs) ≤ 1152) ∧ (5 ≤ nF zs → Bd (csM 3 4 zs) ≤ 1728) := by decide +kernel
theorem mskC : ∀ zs ∈ masks 4, Bd (csM 4 5 zs) ≤ 341 := by decide +kernel
/-! the small ones -/
theorem sml2 : ∀ n, n ≤ 10 → Cw 2 n 0 ≤ 5000 := by decide +kernel
theorem sml3 : ∀ n, n ≤ 9 → Cw 3 n 0 ≤ 5000 := by decide +kernel
theorem sml4 : ∀ n, n ≤ 6 → Cw 4 n 0 ≤ 5000 := by decide +kernel
end CM
end
section
set_option Elab.async false
set_option linter.all false
set_option maxRecDepth 100000
set_option maxHeartbeats 4000000
/-! DL1: plain data over the abstract heap: what a value stands for, a part of the heap that only grows, slots by what they hold. -/
namespace DL
open PySem PySem.Spec L2

/-! ### data -/
inductive D where
  | non | bl (b : Bool) | int (i : Int) | str (s : Str) | lst (ds : List D) | tup (ds : List D)
  /-- a list that may be locked or stand in the written part: read only -/
  | sq (ds : List D)
  | obj (C : Addr) (ns : List Str) (ds : List D)
mutual
inductive Rp (K : PySem.W.Frag) (F : Hp) : V → D → Prop
  | non : Rp K F .non .non
  | bl (b : Bool) : Rp K F (.bl b) (.bl b)
  | int (i : Int) : Rp K F (.int i) (.int i)
  | str (x : Str) : Rp K F (.str x) (.str x)
  | lst {a : Addr} {xs : List V} {ds : List D} : F a = some (.lst xs) → RpA K F xs ds → Rp K F (.ref a) (.lst ds)
  | tup {a : Addr} {xs : List V} {ds : List D} : F a = some (.tup xs) → RpA K F xs ds → Rp K F (.ref a) (.tup ds)
  | sq {a : Addr} {xs : List V} {ds : List D} : SqL K F a xs → RpA K F xs ds → Rp K F (.ref a) (.sq ds)
  | obj {a C dx : Addr} {ns : List Str} {xs : List V} {ds : List D} : F a = some (.ins C dx (ns.zip xs)) → ns.length = xs.length → RpA K F xs ds → Rp K F (.ref a) (.obj C ns ds)
inductive RpA (K : PySem.W.Frag) (F : Hp) : List V → List D → Prop
  | nil : RpA K F [] []
  | cons {v : V} {vs : List V} {d : D} {ds : List D} : Rp K F v d → RpA K F vs ds → RpA K F (v :: vs) (d :: ds)
end

/-! ### heaps that grow -/
def Ex (H H' : Hp) : Prop := ∀ a o, H a = some o → H' a = some o
theorem Ex.refl (H : Hp) : Ex H H := fun _ _ h => h
theorem Ex.trans {H H1 H2 : Hp} (a : Ex H H1) (b : Ex H1 H2) : Ex H H2 := fun x o h => b x o (a x o h)
theorem Ex.new {H : Hp} {p : Addr} {o : HO} (h : H p = none) : Ex H (upd H p o) := fun a u e => by
  rw [upd_ne (ne_of_none e h)]
  exact e
theorem Ex.mut {H H' : Hp} {p : Addr} {o : HO} (e : Ex H H') (h : H p = none) : Ex H (upd H' p o) := fun a u ha => by
  rw [upd_ne (ne_of_none ha h)]
  exact e a u ha
theorem Ex.back {H H' : Hp} {p : Addr} (e : Ex H H') (h : H' p = none) : H p = none := by
  cases h1 : H p with
  | none => rfl
  | some o => rw [e p o h1] at h; cases h
theorem Ex.rd {H H' : Hp} {a : Addr} {u : HO} (e : Ex H H') (h : Rd H a u) : Rd H' a u := by
  rcases h with h | ⟨o, h⟩
  · exact .inl (e a _ h)
  · exact .inr ⟨o, e a _ h⟩
theorem Ex.sq {K : PySem.W.Frag} {H H' : Hp} {a : Addr} {xs : List V} (e : Ex H H') (h : SqL K H a xs) : SqL K H' a xs := by
  rcases h with h | h
  · exact .inl (e.rd h)
  · exact .inr h
mutual
theorem Rp.mono {K : PySem.W.Frag} {F F' : Hp} (e : Ex F F') : ∀ {v : V} {d : D}, Rp K F v d → Rp K F' v d
  | _, _, .non => .non
  | _, _, .bl b => .bl b
  | _, _, .int b => .int b
  | _, _, .str b => .str b
  | _, _, .lst h r => .lst (e _ _ h) (RpA.mono e r)
  | _, _, .tup h r => .tup (e _ _ h) (RpA.mono e r)
  | _, _, .sq h r => .sq (e.sq h) (RpA.mono e r)
  | _, _, .obj h n r => .obj (e _ _ h) n (RpA.mono e r)
theorem RpA.mono {K : PySem.W.Frag} {F F' : Hp} (e : Ex F F') : ∀ {v : List V} {d : List D}, RpA K F v d → RpA K F' v d
  | _, _, .nil => .nil
  | _, _, .cons h r => .cons (Rp.mono e h) (RpA.mono e r)
end
section
variable {K : PySem.W.Frag} {F : Hp}
theorem RpA.len : ∀ {vs : List V} {ds : List D}, RpA K F vs ds → vs.length = ds.length
  | _, _, .nil => rfl
  | _, _, .cons _ r => congrArg Nat.succ r.len
theorem RpA.get : ∀ {vs : List V} {ds : List D} {i : Nat} {d : D}, RpA K F vs ds → ds[i]? = some d → ∃ v, vs[i]? = some v ∧ Rp K F v d
  | _, _, _, _, .nil, h => by simp at h
  | _, _, 0, d, .cons (v := v) r _, h => by
    simp at h; subst h; exact ⟨v, rfl, r⟩
  | _, _, i + 1, d, .cons _ t, h => by
    obtain ⟨v, h1, h2⟩ := RpA.get (i := i) t (by simpa using h)
    exact ⟨v, by simpa using h1, h2⟩
theorem RpA.getV : ∀ {vs : List V} {ds : List D} {i : Nat} {v : V}, RpA K F vs ds → vs[i]? = some v → ∃ d, ds[i]? = some d ∧ Rp K F v d
  | _, _, _, _, .nil, h => by simp at h
  | _, _, 0, v, .cons (d := d) r _, h => by
    simp at h; subst h; exact ⟨d, rfl, r⟩
  | _, _, i + 1, v, .cons _ t, h => by
    obtain ⟨d, h1, h2⟩ := RpA.getV (i := i) t (by simpa using h)
    exact ⟨d, by simpa using h1, h2⟩
theorem RpA.append : ∀ {vs ws : List V} {ds es : List D}, RpA K F vs ds → RpA K F ws es → RpA K F (vs ++ ws) (ds ++ es)
  | _, _, _, _, .nil, s => s
  | _, _, _, _, .cons r t, s => .cons r (t.append s)
theorem RpA.one {v : V} {d : D} (h : Rp K F v d) : RpA K F [v] [d] := .cons h .nil
theorem RpA.take : ∀ {vs : List V} {ds : List D} (n : Nat), RpA K F vs ds → RpA K F (vs.take n) (ds.take n)
  | _, _, 0, _ => .nil
  | _, _, _ + 1, .nil => .nil
  | _, _, n + 1, .cons r t => .cons r (t.take n)
theorem RpA.drop : ∀ {vs : List V} {ds : List D} (n : Nat), RpA K F vs ds → RpA K F (vs.drop n) (ds.drop n)
  | _, _, 0, h => h
  | _, _, _ + 1, .nil => .nil
  | _, _, n + 1, .cons _ t => t.drop n
theorem RpA.erase : ∀ {vs : List V} {ds : List D} (n : Nat), RpA K F vs ds → RpA K F (vs.eraseIdx n) (ds.eraseIdx n)
  | _, _, 0, .nil => .nil
  | _, _, _ + 1, .nil => .nil
  | _, _, 0, .cons _ t => t
  | _, _, n + 1, .cons r t => .cons r (t.erase n)
theorem RpA.dropLast {vs : List V} {ds : List D} (h : RpA K F vs ds) : RpA K F vs.dropLast ds.dropLast := by
  rw [List.dropLast_eq_take, List.dropLast_eq_take, h.len]; exact h.take _
theorem RpA.rev : ∀ {vs : List V} {ds : List D}, RpA K F vs ds → RpA K F vs.reverse ds.reverse
  | _, _, .nil => .nil
  | _, _, .cons r t => by
    rw [List.reverse_cons, List.reverse_cons]; exact t.rev.append (.one r)
theorem RpA.set : ∀ {vs : List V} {ds : List D} {v : V} {d : D} (n : Nat), RpA K F vs ds → Rp K F v d → RpA K F (vs.set n v) (ds.set n d)
  | _, _, _, _, _, .nil, _ => .nil
  | _, _, _, _, 0, .cons _ t, h => .cons h t
  | _, _, _, _, n + 1, .cons r t, h => .cons r (t.set n h)
theorem RpA.ints : ∀ {vs : List V} {ns : List Int}, RpA K F vs (ns.map D.int) → vs = ns.map V.int
  | _, [], .nil => rfl
  | _, n :: ns, .cons r t => by
    cases r; rw [RpA.ints t]; rfl
theorem RpA.ofInts : ∀ (ns : List Int), RpA K F (ns.map V.int) (ns.map D.int)
  | [] => .nil
  | n :: ns => .cons (.int n) (RpA.ofInts ns)
theorem RpA.bools : ∀ {vs : List V} {ns : List Bool}, RpA K F vs (ns.map D.bl) → vs = ns.map V.bl
  | _, [], .nil => rfl
  | _, n :: ns, .cons r t => by
    cases r; rw [RpA.bools t]; rfl
theorem RpA.atI {vs : List V} {ds : List D} {i : Int} {d : D} (r : RpA K F vs ds) (h : atI ds i = some d) : ∃ v, L2.atI vs i = some v ∧ Rp K F v d := by
  unfold L2.atI at h ⊢
  rw [r.len]
  cases e : ixN ds.length i with
  | none => rw [e] at h; cases h
  | some j =>
    rw [e] at h
    obtain ⟨v, h1, h2⟩ := r.get (i := j) h
    exact ⟨v, h1, h2⟩
theorem RpA.mem : ∀ {vs : List V} {ds : List D} {v : V}, RpA K F vs ds → v ∈ vs → ∃ d, d ∈ ds ∧ Rp K F v d
  | _, _, _, .nil, h => by cases h
  | _, _, v, .cons (d := d) r t, h => by
    rcases List.mem_cons.mp h with rfl | h
    · exact ⟨d, List.mem_cons_self .., r⟩
    · obtain ⟨d', h1, h2⟩ := t.mem h; exact ⟨d', List.mem_cons_of_mem _ h1, h2⟩
theorem RpA.zipLookup {f : Str} : ∀ {ns : List Str} {vs : List V} {ds : List D} {d : D}, RpA K F vs ds → (ns.zip ds).lookup f = some d → ∃ v, (ns.zip vs).lookup f = some v ∧ Rp K F v d
  | [], _, _, _, _, h => by simp at h
  | n :: ns, _, _, _, .nil, h => by simp at h
  | n :: ns, _, _, d, .cons (v := v) (vs := vs) (d := d0) (ds := ds) r t, h => by
    have h' : (match f == n with | true => some d0 | false => (ns.zip ds).lookup f) = some d := h
    show ∃ w, (match f == n with | true => some v | false => (ns.zip vs).lookup f) = some w ∧ _
    cases e : (f == n) with
    | true => rw [e] at h'; cases h'; exact ⟨v, rfl, r⟩
    | false => rw [e] at h'; exact t.zipLookup h'
theorem zip_lookup_none {α : Type} {f : Str} : ∀ {ns : List Str} {vs : List α}, ns.contains f = false → (ns.zip vs).lookup f = none
  | [], _, _ => rfl
  | _ :: _, [], _ => rfl
  | n :: ns, v :: vs, h => by
    rw [List.contains_cons, Bool.or_eq_false_iff] at h
    show (match f == n with | true => some v | false => (ns.zip vs).lookup f) = none
    rw [h.1]; exact zip_lookup_none h.2
end

/-! ### F grows within H, and leaves out what H had beside it -/
structure Gr (F H F' H' : Hp) : Prop where
  f : Ex F F'
  h : Ex H H'
  s : Ex F' H'
  n : ∀ a o, H a = some o → (∀ xs, o ≠ HO.tup xs) → F a = none → F' a = none
theorem Gr.refl {F H : Hp} (e : Ex F H) : Gr F H F H := ⟨Ex.refl _, Ex.refl _, e, fun _ _ _ _ h => h⟩
theorem Gr.trans {F H F1 H1 F2 H2 : Hp} (a : Gr F H F1 H1) (b : Gr F1 H1 F2 H2) : Gr F H F2 H2 :=
  ⟨a.f.trans b.f, a.h.trans b.h, b.s, fun x o h1 ht h2 => b.n x o (a.h x o h1) ht (a.n x o h1 ht h2)⟩
theorem Gr.new {F H : Hp} (e : Ex F H) {p : Addr} {o : HO} (h : H p = none) : Gr F H (upd F p o) (upd H p o) := by
  refine ⟨Ex.new (e.back h), Ex.new h, fun a u ha => ?_, fun a u h1 _ h2 => ?_⟩
  · by_cases q : a = p
    · subst q; rw [upd_same] at ha ⊢; exact ha
    · rw [upd_ne q] at ha ⊢; exact e _ _ ha
  · have q : a ≠ p := fun z => by subst z; rw [h] at h1; cases h1
    rw [upd_ne q]; exact h2
/-- a new object that stays outside -/
theorem Gr.out {F H : Hp} (e : Ex F H) {p : Addr} {o : HO} (h : H p = none) : Gr F H F (upd H p o) :=
  ⟨Ex.refl _, Ex.new h, e.mut (e.back h), fun _ _ _ _ q => q⟩
/-- an object that is not of F0, H0 is changed -/
theorem Gr.mut {F H F' H' : Hp} (g : Gr F H F' H') {p : Addr} {o : HO} (h : H p = none) (hf : F' p = none) : Gr F H F' (upd H' p o) :=
  ⟨g.f, g.h.mut h, g.s.mut hf, g.n⟩
/-- an outside object is taken in -/
theorem Gr.take {F H F' H' : Hp} (g : Gr F H F' H') {p : Addr} {o : HO} (h : H p = none) (ho : H' p = some o) (hf : F' p = none) : Gr F H (upd F' p o) H' := by
  refine ⟨g.f.trans (Ex.new hf), g.h, fun a u ha => ?_, fun a u h1 ht h2 => ?_⟩
  · by_cases q : a = p
    · subst q; rw [upd_same] at ha; cases ha; exact ho
    · rw [upd_ne q] at ha; exact g.s _ _ ha
  · have q : a ≠ p := fun z => by subst z; rw [h] at h1; cases h1
    rw [upd_ne q]; exact g.n a u h1 ht h2
def takeAll (H : Hp) (F : Hp) (as : List Addr) : Hp := fun b => if b ∈ as then H b else F b
/-- tuples that stand outside are taken in -/
theorem Gr.tups {F H : Hp} (e : Ex F H) {bs : List Addr} (hb : ∀ b ∈ bs, ∃ xs, H b = some (.tup xs)) : Gr F H (takeAll H F bs) H := by
  refine ⟨fun a u ha => ?_, Ex.refl _, fun a u ha => ?_, fun a u h1 ht h2 => ?_⟩
  · unfold takeAll; split
    · exact e _ _ ha
    · exact ha
  · unfold takeAll at ha; split at ha
    · exact ha
    · exact e _ _ ha
  · unfold takeAll
    rw [if_neg (fun hm => ?_)]; exact h2
    obtain ⟨xs, hx⟩ := hb a hm
    rw [hx] at h1; cases h1; exact ht xs rfl

/-! ### what the slots hold -/
inductive Sl where
  | any
  | dat (d : D)
  /-- an own list, its items plain data -/
  | own (ds : List D)
  /-- an own list of own lists -/
  | own2 (dss : List (List D))
  /-- an own dict with pairs of ints as keys, all values True -/
  | dic (ps : List (Int × Int))
  /-- an own instance in the making -/
  | mk (x dx C : Addr) (ns : List Str) (ds : List D)
def dicOf (ps : List (Int × Int)) : List (List Key × V) := ps.map fun p => ([Sum.inl p.1, Sum.inl p.2], V.bl true)
def SlOk (K : PySem.W.Frag) (F H : Hp) : Sl → Option V → List Addr → Prop
  | .any, _, as => as = []
  | .dat d, o, as => as = [] ∧ ∃ v, o = some v ∧ Rp K F v d
  | .own ds, o, as => ∃ a vs, as = [a] ∧ o = some (.ref a) ∧ H a = some (.lst vs) ∧ RpA K F vs ds
  | .own2 dss, o, as => ∃ a bs, as = a :: bs ∧ o = some (.ref a) ∧ H a = some (.lst (bs.map V.ref)) ∧ Paired (fun b ds => ∃ vs, H b = some (.lst vs) ∧ RpA K F vs ds) bs dss
  | .dic ps, o, as => ∃ a, as = [a] ∧ o = some (.ref a) ∧ H a = some (.dT (dicOf ps))
  | .mk x dx C ns ds, o, as => ∃ vs, as = [x] ∧ o = some (.ref x) ∧ H x = some (.ins C dx (ns.zip vs)) ∧ ns.length = vs.length ∧ RpA K F vs ds
def Sls (K : PySem.W.Frag) (F H : Hp) : List Sl → St → List Addr → Prop
  | [], [], as => as = []
  | g :: Γ, o :: σ, as => ∃ a1 a2, as = a1 ++ a2 ∧ SlOk K F H g o a1 ∧ Sls K F H Γ σ a2
  | _, _, _ => False
structure Ct where
  K : PySem.W.Frag
  F0 : Hp
  H0 : Hp
structure Know (c : Ct) (A : Hp) (Γ : List Sl) (σ : St) (F H : Hp) : Prop where
  gr : Gr c.F0 c.H0 F H
  an : Ex A F
  sl : ∃ as, Sls c.K F H Γ σ as ∧ as.Nodup ∧ ∀ a ∈ as, F a = none ∧ c.H0 a = none
theorem Paired.mp {α β : Type} {R S : α → β → Prop} (f : ∀ a b, R a b → S a b) : ∀ {xs : List α} {ys : List β}, Paired R xs ys → Paired S xs ys
  | _, _, .nil => .nil
  | _, _, .cons h t => .cons (f _ _ h) (Paired.mp f t)
theorem Paired.mpm {α β : Type} {R S : α → β → Prop} : ∀ {xs : List α} {ys : List β}, (∀ a b, a ∈ xs → R a b → S a b) → Paired R xs ys → Paired S xs ys
  | _, _, _, .nil => .nil
  | _, _, f, .cons h t => .cons (f _ _ (List.mem_cons_self ..) h) (Paired.mpm (fun a b ha => f a b (List.mem_cons_of_mem _ ha)) t)
theorem SlOk.mono {K : PySem.W.Frag} {F H F' H' : Hp} (eF : Ex F F') : ∀ {g : Sl} {o : Option V} {as : List Addr}, (∀ a ∈ as, H' a = H a) → SlOk K F H g o as → SlOk K F' H' g o as
  | .any, _, _, _, h => h
  | .dat d, _, _, _, ⟨h, v, e, r⟩ => ⟨h, v, e, r.mono eF⟩
  | .own ds, _, _, k, ⟨a, vs, h, e, q, r⟩ => ⟨a, vs, h, e, (k a (by rw [h]; simp)).trans q, r.mono eF⟩
  | .own2 dss, _, _, k, ⟨a, bs, h, e, q, r⟩ => ⟨a, bs, h, e, (k a (by rw [h]; simp)).trans q, Paired.mpm (fun b ds hb ⟨vs, h1, h2⟩ => ⟨vs, (k b (by rw [h]; simp [hb])).trans h1, h2.mono eF⟩) r⟩
  | .dic ps, _, _, k, ⟨a, h, e, q⟩ => ⟨a, h, e, (k a (by rw [h]; simp)).trans q⟩
  | .mk x dx C ns ds, _, _, k, ⟨vs, h, e, q, n, r⟩ => ⟨vs, h, e, (k x (by rw [h]; simp)).trans q, n, r.mono eF⟩
theorem Sls.mono {K : PySem.W.Frag} {F H F' H' : Hp} (eF : Ex F F') : ∀ {Γ : List Sl} {σ : St} {as : List Addr}, (∀ a ∈ as, H' a = H a) → Sls K F H Γ σ as → Sls K F' H' Γ σ as
  | [], [], _, _, h => h
  | g :: Γ, o :: σ, as, k, ⟨a1, a2, e, h1, h2⟩ => ⟨a1, a2, e, h1.mono eF (fun a ha => k a (by rw [e]; exact List.mem_append_left _ ha)), Sls.mono eF (fun a ha => k a (by rw [e]; exact List.mem_append_right _ ha)) h2⟩
  | [], _ :: _, _, _, h => h
  | _ :: _, [], _, _, h => h
theorem paired_there {K : PySem.W.Frag} {F H : Hp} : ∀ {bs : List Addr} {dss : List (List D)}, Paired (fun b ds => ∃ vs, H b = some (.lst vs) ∧ RpA K F vs ds) bs dss → ∀ b ∈ bs, ∃ u, H b = some u ∧ ∀ xs, u ≠ HO.tup xs
  | _, _, .nil, _, hb => by cases hb
  | _, _, .cons h t, b, hb => by
    rcases List.mem_cons.mp hb with rfl | hb
    · obtain ⟨vs, h1, _⟩ := h; exact ⟨_, h1, fun _ z => by cases z⟩
    · exact paired_there t b hb
theorem SlOk.there {K : PySem.W.Frag} {F H : Hp} : ∀ {g : Sl} {o : Option V} {as : List Addr}, SlOk K F H g o as → ∀ a ∈ as, ∃ u, H a = some u ∧ ∀ xs, u ≠ HO.tup xs
  | .any, _, _, h, a, ha => by rw [show _ = _ from h] at ha; cases ha
  | .dat d, _, _, ⟨h, _⟩, a, ha => by rw [h] at ha; cases ha
  | .own ds, _, _, ⟨a, vs, h, e, q, r⟩, b, hb => by rw [h] at hb; simp at hb; subst hb; exact ⟨_, q, fun _ z => by cases z⟩
  | .own2 dss, _, _, ⟨a, bs, h, e, q, r⟩, b, hb => by
    rw [h] at hb
    rcases List.mem_cons.mp hb with rfl | hb
    · exact ⟨_, q, fun _ z => by cases z⟩
    · exact paired_there r b hb
  | .dic ps, _, _, ⟨a, h, e, q⟩, b, hb => by rw [h] at hb; simp at hb; subst hb; exact ⟨_, q, fun _ z => by cases z⟩
  | .mk x dx C ns ds, _, _, ⟨vs, h, e, q, n, r⟩, b, hb => by rw [h] at hb; simp at hb; subst hb; exact ⟨_, q, fun _ z => by cases z⟩
theorem Sls.there {K : PySem.W.Frag} {F H : Hp} : ∀ {Γ : List Sl} {σ : St} {as : List Addr}, Sls K F H Γ σ as → ∀ a ∈ as, ∃ u, H a = some u ∧ ∀ xs, u ≠ HO.tup xs
  | [], [], _, h, a, ha => by rw [show _ = _ from h] at ha; cases ha
  | g :: Γ, o :: σ, as, ⟨a1, a2, e, h1, h2⟩, a, ha => by
    rw [e] at ha
    rcases List.mem_append.mp ha with ha | ha
    · exact h1.there a ha
    · exact h2.there a ha
  | [], _ :: _, _, h, _, _ => h.elim
  | _ :: _, [], _, h, _, _ => h.elim
theorem Know.grow {c : Ct} {A : Hp} {Γ : List Sl} {σ : St} {F H F' H' : Hp} (k : Know c A Γ σ F H) (g : Gr F H F' H') : Know c A Γ σ F' H' := by
  obtain ⟨as, h1, h2, h3⟩ := k.sl
  refine ⟨k.gr.trans g, k.an.trans g.f, as, h1.mono g.f (fun a ha => ?_), h2, fun a ha => ?_⟩
  · obtain ⟨u, hu, _⟩ := h1.there a ha
    rw [hu]; exact g.h _ _ hu
  · obtain ⟨u, hu, ht⟩ := h1.there a ha
    exact ⟨g.n a u hu ht (h3 a ha).1, (h3 a ha).2⟩
/-- an object that is nobody's is changed -/
theorem Know.other {c : Ct} {A : Hp} {Γ : List Sl} {σ : St} {F1 H1 F H : Hp} (k : Know c A Γ σ F1 H1) (g : Gr F1 H1 F H) {p : Addr} {o : HO} (hp : H1 p = none) (hf : F p = none) : Know c A Γ σ F (upd H p o) := k.grow (g.mut hp hf)
theorem Know.anchor {c : Ct} {A A' : Hp} {Γ : List Sl} {σ : St} {F H : Hp} (k : Know c A Γ σ F H) (e : Ex A' F) : Know c A' Γ σ F H := ⟨k.gr, e, k.sl⟩
theorem Sls.len {K : PySem.W.Frag} {F H : Hp} : ∀ {Γ : List Sl} {σ : St} {as : List Addr}, Sls K F H Γ σ as → Γ.length = σ.length
  | [], [], _, _ => rfl
  | _ :: _, _ :: _, _, ⟨_, _, _, _, h2⟩ => congrArg Nat.succ h2.len
  | [], _ :: _, _, h => h.elim
  | _ :: _, [], _, h => h.elim
theorem Know.len {c : Ct} {A : Hp} {Γ : List Sl} {σ : St} {F H : Hp} (k : Know c A Γ σ F H) : Γ.length = σ.length := by
  obtain ⟨as, h, _, _⟩ := k.sl
  exact h.len
/-- the i-th slot, and how it may be put anew -/
theorem Sls.at {K : PySem.W.Frag} {F H : Hp} : ∀ {Γ : List Sl} {σ : St} {as : List Addr} {i : Nat} {g : Sl}, Sls K F H Γ σ as → Γ[i]? = some g →
    ∃ o a1 a2 a3, σ[i]? = some o ∧ as = a1 ++ (a2 ++ a3) ∧ SlOk K F H g o a2 ∧
      ∀ F' H' g' o' a2', Ex F F' → (∀ a ∈ a1 ++ a3, H' a = H a) → SlOk K F' H' g' o' a2' → Sls K F' H' (Γ.set i g') (σ.set i o') (a1 ++ (a2' ++ a3))
  | [], _, _, i, _, _, h => by simp at h
  | g0 :: Γ, [], _, _, _, h, _ => h.elim
  | g0 :: Γ, o0 :: σ, as, 0, g, ⟨a1, a2, e, h1, h2⟩, h => by
    simp at h; subst h
    refine ⟨o0, [], a1, a2, rfl, e, h1, fun F' H' g' o' a2' eF k s => ⟨a2', a2, rfl, s, h2.mono eF fun a ha => k a (by simpa using ha)⟩⟩
  | g0 :: Γ, o0 :: σ, as, i + 1, g, ⟨a1, a2, e, h1, h2⟩, h => by
    obtain ⟨o, b1, b2, b3, q1, q2, q3, q4⟩ := Sls.at (i := i) h2 (by simpa using h)
    refine ⟨o, a1 ++ b1, b2, b3, by simpa using q1, by rw [e, q2]; simp, q3, fun F' H' g' o' a2' eF k s => ?_⟩
    refine ⟨a1, b1 ++ (a2' ++ b3), by simp, h1.mono eF fun a ha => k a (by simp [ha]), q4 F' H' g' o' a2' eF (fun a ha => k a ?_) s⟩
    rcases List.mem_append.mp ha with ha | ha <;> simp [ha]
section
variable {c : Ct} {A : Hp} {Γ : List Sl} {σ : St} {F H : Hp} {i : Nat}
theorem Know.dat {d : D} (k : Know c A Γ σ F H) (h : Γ[i]? = some (.dat d)) : ∃ v, σ[i]? = some (some v) ∧ Rp c.K F v d := by
  obtain ⟨as, h1, _, _⟩ := k.sl
  obtain ⟨o, _, _, _, q1, _, ⟨_, v, rfl, r⟩, _⟩ := h1.at h
  exact ⟨v, q1, r⟩
/-- a slot is given data (or forgotten) -/
theorem Know.put {g : Sl} {o : Option V} (k : Know c A Γ σ F H) (hi : i < Γ.length) (s : SlOk c.K F H g o []) : Know c A (Γ.set i g) (σ.set i o) F H := by
  obtain ⟨as, h1, h2, h3⟩ := k.sl
  obtain ⟨o, a1, a2, a3, q1, rfl, q3, q4⟩ := h1.at (List.getElem?_eq_getElem hi)
  refine ⟨k.gr, k.an, _, q4 F H g _ [] (Ex.refl _) (fun _ _ => rfl) s, ?_, fun a ha => h3 a ?_⟩
  · refine h2.sublist ?_
    exact List.Sublist.append (List.Sublist.refl _) (List.Sublist.append (List.nil_sublist _) (List.Sublist.refl _))
  · simp only [List.nil_append, List.mem_append] at ha ⊢
    rcases ha with ha | ha
    · exact .inl ha
    · exact .inr (.inr ha)
theorem Know.set {d : D} {v : V} (k : Know c A Γ σ F H) (hi : i < Γ.length) (r : Rp c.K F v d) : Know c A (Γ.set i (.dat d)) (σ.set i (some v)) F H :=
  k.put hi ⟨rfl, v, rfl, r⟩
/-- a slot is given a new own object -/
theorem Know.putNew {F1 H1 : Hp} {g : Sl} {o : Option V} {as2 : List Addr} (k : Know c A Γ σ F1 H1) (gr : Gr F1 H1 F H) (hi : i < Γ.length) (s : SlOk c.K F H g o as2) (nd : as2.Nodup) (hn : ∀ a ∈ as2, H1 a = none ∧ F a = none) :
    Know c A (Γ.set i g) (σ.set i o) F H := by
  have k' := k.grow gr
  obtain ⟨as, h1, h2, h3⟩ := k.sl
  have hd' : ∀ a ∈ as2, a ∉ as := fun a ha hm => by
    obtain ⟨u, hu, _⟩ := h1.there a hm
    rw [(hn a ha).1] at hu; cases hu
  have h1' : Sls c.K F H Γ σ as := h1.mono gr.f fun z hz => by
    obtain ⟨w, hw, _⟩ := h1.there z hz
    rw [hw]; exact gr.h _ _ hw
  have h3' : ∀ a ∈ as, F a = none ∧ c.H0 a = none := fun a ha => by
    obtain ⟨w, hw, ht⟩ := h1.there a ha
    exact ⟨gr.n a w hw ht (h3 a ha).1, (h3 a ha).2⟩
  obtain ⟨o', a1, a2, a3, q1, rfl, q3, q4⟩ := h1'.at (List.getElem?_eq_getElem hi)
  refine ⟨k'.gr, k'.an, _, q4 F H g _ as2 (Ex.refl _) (fun _ _ => rfl) s, ?_, fun a ha => ?_⟩
  · rw [List.nodup_append] at h2 ⊢
    obtain ⟨n1, n2, n3⟩ := h2
    rw [List.nodup_append] at n2 ⊢
    obtain ⟨m1, m2, m3⟩ := n2
    refine ⟨n1, ⟨nd, m2, fun a ha b hb e => ?_⟩, fun a ha b hb e => ?_⟩
    · subst e; exact hd' a ha (by simp [hb])
    · subst e
      rcases List.mem_append.mp hb with hb | hb
      · exact hd' a hb (by simp [ha])
      · exact n3 a ha a (by simp [hb]) rfl
  · simp only [List.mem_append] at ha
    rcases ha with ha | ha | ha
    · exact h3' a (by simp [ha])
    · exact ⟨(hn a ha).2, k.gr.h.back (hn a ha).1⟩
    · exact h3' a (by simp [ha])
/-- an own object of a slot is changed (the same addresses) -/
theorem Know.change {g g' : Sl} {H' : Hp} (k : Know c A Γ σ F H) (h : Γ[i]? = some g) :
    ∃ o as, σ[i]? = some o ∧ SlOk c.K F H g o as ∧ as.Nodup ∧ (∀ a ∈ as, F a = none ∧ c.H0 a = none) ∧
      ((∀ a, a ∉ as → H' a = H a) → SlOk c.K F H' g' o as → Know c A (Γ.set i g') σ F H') := by
  obtain ⟨as, h1, h2, h3⟩ := k.sl
  obtain ⟨o, a1, a2, a3, q1, rfl, q3, q4⟩ := h1.at h
  have n2 : a2.Nodup := (List.nodup_append.mp (List.nodup_append.mp h2).2.1).1
  refine ⟨o, a2, q1, q3, n2, fun a ha => h3 a (by simp [ha]), fun kp s => ?_⟩
  have eσ : σ.set i o = σ := by
    apply List.ext_getElem?
    intro j
    by_cases q : i = j
    · subst q
      obtain ⟨hlt, e⟩ := List.getElem?_eq_some_iff.mp q1
      rw [List.getElem?_set_self hlt, q1]
    · rw [List.getElem?_set_ne q]
  have off : ∀ a ∈ a1 ++ a3, H' a = H a := fun a ha => kp a fun hm => by
    rw [List.nodup_append] at h2
    obtain ⟨n1, n2, n3⟩ := h2
    rw [List.nodup_append] at n2
    rcases List.mem_append.mp ha with ha | ha
    · exact n3 a ha a (by simp [hm]) rfl
    · exact n2.2.2 a hm a ha rfl
  have z := q4 F H' g' o a2 (Ex.refl _) off s
  rw [eσ] at z
  refine ⟨⟨k.gr.f, fun b u hb => ?_, fun b u hb => ?_, k.gr.n⟩, k.an, _, z, h2, h3⟩
  · by_cases q : b ∈ a2
    · rw [(h3 b (by simp [q])).2] at hb; cases hb
    · rw [kp b q]; exact k.gr.h _ _ hb
  · by_cases q : b ∈ a2
    · rw [(h3 b (by simp [q])).1] at hb; cases hb
    · rw [kp b q]; exact k.gr.s _ _ hb
/-- an own object becomes data: F takes it in -/
theorem Know.take {g : Sl} (k : Know c A Γ σ F H) (h : Γ[i]? = some g) : ∃ o as, σ[i]? = some o ∧ SlOk c.K F H g o as ∧ as.Nodup ∧ (∀ a ∈ as, F a = none ∧ c.H0 a = none) ∧
    ∀ F' v d, o = some v → Ex F F' → Ex F' H → (∀ b, b ∉ as → F' b = F b) → Rp c.K F' v d → Know c A (Γ.set i (.dat d)) σ F' H := by
  obtain ⟨as, h1, h2, h3⟩ := k.sl
  obtain ⟨o, a1, a2, a3, q1, rfl, q3, q4⟩ := h1.at h
  have n2 : a2.Nodup := (List.nodup_append.mp (List.nodup_append.mp h2).2.1).1
  refine ⟨o, a2, q1, q3, n2, fun a ha => h3 a (by simp [ha]), fun F' v d e eF eH kp r => ?_⟩
  subst e
  have eσ : σ.set i (some v) = σ := by
    apply List.ext_getElem?
    intro j
    by_cases q : i = j
    · subst q
      obtain ⟨hlt, e⟩ := List.getElem?_eq_some_iff.mp q1
      rw [List.getElem?_set_self hlt, q1]
    · rw [List.getElem?_set_ne q]
  have z := q4 F' H (.dat d) (some v) [] eF (fun _ _ => rfl) ⟨rfl, v, rfl, r⟩
  rw [eσ] at z
  have nd := List.nodup_append.mp h2
  have nd2 := List.nodup_append.mp nd.2.1
  refine ⟨⟨k.gr.f.trans eF, k.gr.h, eH, fun b u h1 ht h2 => ?_⟩, k.an.trans eF, _, z, ?_, fun a ha => ?_⟩
  · by_cases q : b ∈ a2
    · rw [(h3 b (by simp [q])).2] at h1; cases h1
    · rw [kp b q]; exact k.gr.n b u h1 ht h2
  · refine h2.sublist ?_
    exact List.Sublist.append (List.Sublist.refl _) (List.Sublist.append (List.nil_sublist _) (List.Sublist.refl _))
  · simp only [List.nil_append, List.mem_append] at ha
    have hm : a ∈ a1 ++ (a2 ++ a3) := by
      rcases ha with ha | ha <;> simp [ha]
    have nm : a ∉ a2 := fun hm2 => by
      rcases ha with ha | ha
      · exact nd.2.2 a ha a (by simp [hm2]) rfl
      · exact nd2.2.2 a hm2 a ha rfl
    exact ⟨(kp a nm).trans (h3 a hm).1, (h3 a hm).2⟩
end
/-! ### forgetting -/
inductive Wk : List Sl → List Sl → Prop
  | nil : Wk [] []
  | any {g : Sl} {Γ Γ' : List Sl} : Wk Γ Γ' → Wk (g :: Γ) (.any :: Γ')
  | same {g : Sl} {Γ Γ' : List Sl} : Wk Γ Γ' → Wk (g :: Γ) (g :: Γ')
theorem Wk.refl : ∀ Γ : List Sl, Wk Γ Γ
  | [] => .nil
  | _ :: Γ => .same (Wk.refl Γ)
theorem Sls.wk {K : PySem.W.Frag} {F H : Hp} : ∀ {Γ Γ' : List Sl} {σ : St} {as : List Addr}, Wk Γ Γ' → Sls K F H Γ σ as → ∃ as', Sls K F H Γ' σ as' ∧ as'.Sublist as
  | _, _, [], as, .nil, h => ⟨as, h, List.Sublist.refl _⟩
  | _, _, o :: σ, as, .nil, h => h.elim
  | _, _, [], _, .any _, h => h.elim
  | _, _, [], _, .same _, h => h.elim
  | _, _, o :: σ, as, .any w, ⟨a1, a2, e, h1, h2⟩ => by
    obtain ⟨b, q1, q2⟩ := Sls.wk w h2
    exact ⟨b, ⟨[], b, rfl, rfl, q1⟩, by rw [e]; exact q2.trans (List.sublist_append_right _ _)⟩
  | _, _, o :: σ, as, .same w, ⟨a1, a2, e, h1, h2⟩ => by
    obtain ⟨b, q1, q2⟩ := Sls.wk w h2
    exact ⟨a1 ++ b, ⟨a1, b, rfl, h1, q1⟩, by rw [e]; exact List.Sublist.append (List.Sublist.refl _) q2⟩
theorem Know.wk {c : Ct} {A : Hp} {Γ Γ' : List Sl} {σ : St} {F H : Hp} (k : Know c A Γ σ F H) (w : Wk Γ Γ') : Know c A Γ' σ F H := by
  obtain ⟨as, h1, h2, h3⟩ := k.sl
  obtain ⟨b, q1, q2⟩ := h1.wk w
  exact ⟨k.gr, k.an, b, q1, h2.sublist q2, fun a ha => h3 a (q2.subset ha)⟩
end DL
end
section
set_option Elab.async false
set_option linter.all false
set_option maxRecDepth 100000
set_option maxHeartbeats 4000000
/-! DL2: what an expression's reading comes to, told over plain data. -/
namespace DL
open PySem PySem.Spec L2

section
variable (c : Ct) (A : Hp) (Γ : List Sl)
/-- some data that R tells -/
def EvR (te : TE) (R : D → Prop) : Prop := ∀ σ F H Q, Know c A Γ σ F H → (∀ v d F2 H2, R d → Gr F H F2 H2 → Rp c.K F2 v d → Q v H2) → te σ H Q
def EvG (te : TE) (d : D) : Prop := ∀ σ F H Q, Know c A Γ σ F H → (∀ v F2 H2, Gr F H F2 H2 → Rp c.K F2 v d → Q v H2) → te σ H Q
/-- a list that is read -/
def EvL (te : TE) (ds : List D) : Prop := ∀ σ F H Q, Know c A Γ σ F H → (∀ a vs F2 H2, Gr F H F2 H2 → SqL c.K H2 a vs → RpA c.K F2 vs ds → Q (.ref a) H2) → te σ H Q
/-- a new list, still outside -/
def EvN (te : TE) (ds : List D) : Prop := ∀ σ F H Q, Know c A Γ σ F H → (∀ a vs F2 H2, Gr F H F2 H2 → H a = none → F2 a = none → H2 a = some (.lst vs) → RpA c.K F2 vs ds → Q (.ref a) H2) → te σ H Q
def EvT (tt : TT) (b : Bool) : Prop := ∀ σ F H (Q : Bool → Hp → Prop), Know c A Γ σ F H → (∀ F2 H2, Gr F H F2 H2 → Q b H2) → tt σ H Q
def EvA (ta : TA) (ds : List D) : Prop := ∀ σ F H (Q : List V → Hp → Prop), Know c A Γ σ F H → (∀ vs F2 H2, Gr F H F2 H2 → RpA c.K F2 vs ds → Q vs H2) → ta σ H Q
/-- arguments that are only read: told at the whole heap -/
def EvAH (ta : TA) (ds : List D) : Prop := ∀ σ F H (Q : List V → Hp → Prop), Know c A Γ σ F H → (∀ vs F2 H2, Gr F H F2 H2 → RpA c.K H2 vs ds → Q vs H2) → ta σ H Q
def EvO (to : TO) (o : Option Int) : Prop := ∀ σ F H (Q : Option Int → Hp → Prop), Know c A Γ σ F H → (∀ F2 H2, Gr F H F2 H2 → Q o H2) → to σ H Q
end
section
variable {c : Ct} {A : Hp} {Γ : List Sl} {te ta tb : TE} {tt tu : TT} {d e : D} {ds es : List D} {b : Bool}
theorem EvG.is (h : EvG c A Γ te d) (q : d = e) : EvG c A Γ te e := q ▸ h
theorem EvN.is (h : EvN c A Γ te ds) (q : ds = es) : EvN c A Γ te es := q ▸ h
theorem EvL.is (h : EvL c A Γ te ds) (q : ds = es) : EvL c A Γ te es := q ▸ h
theorem EvT.is {b' : Bool} (h : EvT c A Γ tt b) (q : b = b') : EvT c A Γ tt b' := q ▸ h
theorem EvG.r (h : EvG c A Γ te d) : EvR c A Γ te (fun x => x = d) := fun σ F H Q k q => h σ F H Q k fun v F2 H2 g r => q v d F2 H2 rfl g r
theorem EvR.g {R : D → Prop} (h : EvR c A Γ te R) (u : ∀ x, R x → x = d) : EvG c A Γ te d := fun σ F H Q k q => h σ F H Q k fun v x F2 H2 hR g r => q v F2 H2 g (u x hR ▸ r)
theorem EvG.l (h : EvG c A Γ te (.lst ds)) : EvL c A Γ te ds := fun σ F H Q k q => h σ F H Q k fun v F2 H2 g r => by
  cases r with
  | lst h1 h2 => exact q _ _ F2 H2 g (.inl (.inl (g.s _ _ h1))) h2
theorem EvG.lq (h : EvG c A Γ te (.sq ds)) : EvL c A Γ te ds := fun σ F H Q k q => h σ F H Q k fun v F2 H2 g r => by
  cases r with
  | sq h1 h2 => exact q _ _ F2 H2 g (g.s.sq h1) h2
theorem EvN.g (h : EvN c A Γ te ds) : EvG c A Γ te (.lst ds) := fun σ F H Q k q => h σ F H Q k fun a vs F2 H2 g h1 h2 h3 r =>
  q _ _ H2 (g.take h1 h3 h2) (.lst upd_same (r.mono (Ex.new h2)))
theorem EvN.l (h : EvN c A Γ te ds) : EvL c A Γ te ds := h.g.l

/-! ### names, constants -/
theorem ev_var {i : Nat} (h : Γ[i]? = some (.dat d) := by rfl) : EvG c A Γ (tVar i) d := fun σ F H Q k q => by
  obtain ⟨v, e, r⟩ := k.dat h
  exact ⟨v, e, q v F H (Gr.refl k.gr.s) r⟩
theorem ev_own {i : Nat} (h : Γ[i]? = some (.own ds) := by rfl) : EvL c A Γ (tVar i) ds := fun σ F H Q k q => by
  obtain ⟨o, as, e, ⟨a, vs, _, rfl, hH, r⟩, _⟩ := k.change (g' := .any) (H' := H) h
  exact ⟨_, e, q a vs F H (Gr.refl k.gr.s) (.inl (.inl hH)) r⟩
theorem ev_int {i : Int} : EvG c A Γ (tC (.int i)) (.int i) := fun σ F H Q k q => q _ F H (Gr.refl k.gr.s) (.int i)
theorem ev_bl {i : Bool} : EvG c A Γ (tC (.bl i)) (.bl i) := fun σ F H Q k q => q _ F H (Gr.refl k.gr.s) (.bl i)
theorem ev_str {i : Str} : EvG c A Γ (tC (.str i)) (.str i) := fun σ F H Q k q => q _ F H (Gr.refl k.gr.s) (.str i)
theorem ev_non : EvG c A Γ (tC .non) .non := fun σ F H Q k q => q _ F H (Gr.refl k.gr.s) .non

/-! ### operators -/
theorem ev_op {r : R2} {d1 d2 : D} (ha : EvG c A Γ ta d1) (hb : EvG c A Γ tb d2)
    (hr : ∀ v1 v2 F H Q, Ex F H → Rp c.K F v1 d1 → Rp c.K F v2 d2 → (∀ v F2 H2, Gr F H F2 H2 → Rp c.K F2 v d → Q v H2) → r v1 v2 H Q) : EvG c A Γ (tOp r ta tb) d := fun σ F H Q k q =>
  ha σ F H _ k fun v1 F1 H1 g1 r1 => hb σ F1 H1 _ (k.grow g1) fun v2 F2 H2 g2 r2 =>
    hr v1 v2 F2 H2 Q g2.s (r1.mono g2.f) r2 fun v F3 H3 g3 r3 => q v F3 H3 ((g1.trans g2).trans g3) r3
theorem ev_I0 {g : Int → Int → V} {f : Int → Int → D} {i j : Int} (hf : ∀ K F, Rp K F (g i j) (f i j)) (ha : EvG c A Γ ta (.int i)) (hb : EvG c A Γ tb (.int j)) : EvG c A Γ (tOp (rI0 g) ta tb) (f i j) :=
  ev_op ha hb fun v1 v2 F H Q e r1 r2 q => by
    cases r1; cases r2
    exact ⟨i, j, rfl, rfl, q _ F H (Gr.refl e) (hf _ _)⟩
theorem ev_I {C : Int → Int → Prop} {g : Int → Int → V} {f : Int → Int → D} {i j : Int} (hf : ∀ K F, Rp K F (g i j) (f i j)) (ha : EvG c A Γ ta (.int i)) (hb : EvG c A Γ tb (.int j)) (hc : C i j) : EvG c A Γ (tOp (rI C g) ta tb) (f i j) :=
  ev_op ha hb fun v1 v2 F H Q e r1 r2 q => by
    cases r1; cases r2
    exact ⟨i, j, rfl, rfl, hc, q _ F H (Gr.refl e) (hf _ _)⟩
section
variable {i j : Int} (ha : EvG c A Γ ta (.int i)) (hb : EvG c A Γ tb (.int j))
include ha hb
theorem ev_add : EvG c A Γ (tOp (rI0 fun i j => .int (i + j)) ta tb) (.int (i + j)) := ev_I0 (g := fun i j => .int (i + j)) (f := fun i j => .int (i + j)) (fun _ _ => .int _) ha hb
theorem ev_sub : EvG c A Γ (tOp (rI0 fun i j => .int (i - j)) ta tb) (.int (i - j)) := ev_I0 (g := fun i j => .int (i - j)) (f := fun i j => .int (i - j)) (fun _ _ => .int _) ha hb
theorem ev_lt : EvG c A Γ (tOp (rI0 fun i j => .bl (decide (i < j))) ta tb) (.bl (decide (i < j))) := ev_I0 (g := fun i j => .bl (decide (i < j))) (f := fun i j => .bl (decide (i < j))) (fun _ _ => .bl _) ha hb
theorem ev_le : EvG c A Γ (tOp (rI0 fun i j => .bl (decide (i ≤ j))) ta tb) (.bl (decide (i ≤ j))) := ev_I0 (g := fun i j => .bl (decide (i ≤ j))) (f := fun i j => .bl (decide (i ≤ j))) (fun _ _ => .bl _) ha hb
theorem ev_gt : EvG c A Γ (tOp (rI0 fun i j => .bl (decide (j < i))) ta tb) (.bl (decide (j < i))) := ev_I0 (g := fun i j => .bl (decide (j < i))) (f := fun i j => .bl (decide (j < i))) (fun _ _ => .bl _) ha hb
theorem ev_ge : EvG c A Γ (tOp (rI0 fun i j => .bl (decide (j ≤ i))) ta tb) (.bl (decide (j ≤ i))) := ev_I0 (g := fun i j => .bl (decide (j ≤ i))) (f := fun i j => .bl (decide (j ≤ i))) (fun _ _ => .bl _) ha hb
theorem ev_mul (h : CMul i j) : EvG c A Γ (tOp (rI CMul fun i j => .int (i * j)) ta tb) (.int (i * j)) := ev_I (g := fun i j => .int (i * j)) (f := fun i j => .int (i * j)) (fun _ _ => .int _) ha hb h
theorem ev_mod (h : j ≠ 0) : EvG c A Γ (tOp (rI (fun _ j => j ≠ 0) fun i j => .int (i.fmod j)) ta tb) (.int (i.fmod j)) := ev_I (C := fun _ j => j ≠ 0) (g := fun i j => .int (i.fmod j)) (f := fun i j => .int (i.fmod j)) (fun _ _ => .int _) ha hb h
theorem ev_fdiv (h : CDivN i j) : EvG c A Γ (tOp (rI CDivN fun i j => .int (i.fdiv j)) ta tb) (.int (i.fdiv j)) := ev_I (g := fun i j => .int (i.fdiv j)) (f := fun i j => .int (i.fdiv j)) (fun _ _ => .int _) ha hb h
theorem ev_pow (h : CPow i j) : EvG c A Γ (tOp (rI CPow fun i j => .int (i ^ j.toNat)) ta tb) (.int (i ^ j.toNat)) := ev_I (g := fun i j => .int (i ^ j.toNat)) (f := fun i j => .int (i ^ j.toNat)) (fun _ _ => .int _) ha hb h
theorem ev_eqI : EvG c A Γ (tOp rEq ta tb) (.bl (decide (i = j))) := ev_op ha hb fun v1 v2 F H Q e r1 r2 q => by
  cases r1; cases r2
  refine ⟨rfl, ?_⟩
  have e2 : decide (V.int i = V.int j) = decide (i = j) := by rw [decide_eq_decide]; exact ⟨fun h => V.int.inj h, fun h => by rw [h]⟩
  rw [e2]; exact q _ F H (Gr.refl e) (.bl _)
theorem ev_neI : EvG c A Γ (tOp rNe ta tb) (.bl (!decide (i = j))) := ev_op ha hb fun v1 v2 F H Q e r1 r2 q => by
  cases r1; cases r2
  refine ⟨rfl, ?_⟩
  have e2 : decide (V.int i = V.int j) = decide (i = j) := by rw [decide_eq_decide]; exact ⟨fun h => V.int.inj h, fun h => by rw [h]⟩
  rw [e2]; exact q _ F H (Gr.refl e) (.bl _)
end
theorem ev_eqB {x y : Bool} (ha : EvG c A Γ ta (.bl x)) (hb : EvG c A Γ tb (.bl y)) : EvG c A Γ (tOp rEq ta tb) (.bl (decide (x = y))) := ev_op ha hb fun v1 v2 F H Q e r1 r2 q => by
  cases r1; cases r2
  refine ⟨rfl, ?_⟩
  have e2 : decide (V.bl x = V.bl y) = decide (x = y) := by rw [decide_eq_decide]; exact ⟨fun h => V.bl.inj h, fun h => by rw [h]⟩
  rw [e2]; exact q _ F H (Gr.refl e) (.bl _)
theorem ev_neB {x y : Bool} (ha : EvG c A Γ ta (.bl x)) (hb : EvG c A Γ tb (.bl y)) : EvG c A Γ (tOp rNe ta tb) (.bl (!decide (x = y))) := ev_op ha hb fun v1 v2 F H Q e r1 r2 q => by
  cases r1; cases r2
  refine ⟨rfl, ?_⟩
  have e2 : decide (V.bl x = V.bl y) = decide (x = y) := by rw [decide_eq_decide]; exact ⟨fun h => V.bl.inj h, fun h => by rw [h]⟩
  rw [e2]; exact q _ F H (Gr.refl e) (.bl _)
/-- is of two bools -/
theorem ev_notB {x y : Bool} (ha : EvG c A Γ ta (.bl x)) (hb : EvG c A Γ tb (.bl y)) : EvG c A Γ (tOp rNotB ta tb) (.bl (!decide (x = y))) := ev_op ha hb fun v1 v2 F H Q e r1 r2 q => by
  cases r1; cases r2
  exact ⟨x, y, rfl, rfl, q _ F H (Gr.refl e) (.bl _)⟩
theorem ev_isB {x y : Bool} (ha : EvG c A Γ ta (.bl x)) (hb : EvG c A Γ tb (.bl y)) : EvG c A Γ (tOp rIsB ta tb) (.bl (decide (x = y))) := ev_op ha hb fun v1 v2 F H Q e r1 r2 q => by
  cases r1; cases r2
  exact ⟨x, y, rfl, rfl, q _ F H (Gr.refl e) (.bl _)⟩
/-- is None -/
def D.isNon : D → Bool
  | .non => true
  | _ => false
theorem Rp.isNon {K : PySem.W.Frag} {F : Hp} {v : V} (r : Rp K F v d) : decide (v = V.non) = d.isNon := by
  cases r <;> simp [D.isNon]
theorem ev_isN (ha : EvG c A Γ ta d) : EvG c A Γ (tOp (fun x y H Q => y = .non ∧ Q (.bl (decide (x = .non))) H) ta (tC .non)) (.bl d.isNon) := ev_op ha ev_non fun v1 v2 F H Q e r1 r2 q => by
  cases r2
  exact ⟨rfl, by rw [r1.isNon]; exact q _ F H (Gr.refl e) (.bl _)⟩
theorem ev_notN (ha : EvG c A Γ ta d) : EvG c A Γ (tOp (fun x y H Q => y = .non ∧ Q (.bl (!decide (x = .non))) H) ta (tC .non)) (.bl (!d.isNon)) := ev_op ha ev_non fun v1 v2 F H Q e r1 r2 q => by
  cases r2
  exact ⟨rfl, by rw [r1.isNon]; exact q _ F H (Gr.refl e) (.bl _)⟩

/-! ### items -/
theorem ev_ixL {i : Int} (ha : EvL c A Γ ta ds) (hb : EvG c A Γ tb (.int i)) (h : atI ds i = some d) : EvG c A Γ (tOp (rIxL c.K) ta tb) d := fun σ F H Q k q =>
  ha σ F H _ k fun a vs F1 H1 g1 s1 r1 => hb σ F1 H1 _ (k.grow g1) fun v2 F2 H2 g2 r2 => by
    cases r2
    obtain ⟨v, h1, h2⟩ := (r1.mono g2.f).atI h
    exact ⟨a, vs, i, v, rfl, rfl, g2.h.sq s1, h1, q v F2 H2 (g1.trans g2) h2⟩
theorem ev_ixT {i : Int} (ha : EvG c A Γ ta (.tup ds)) (hb : EvG c A Γ tb (.int i)) (h : atI ds i = some d) : EvG c A Γ (tOp (rIxT c.K) ta tb) d := fun σ F H Q k q =>
  ha σ F H _ k fun v1 F1 H1 g1 r1 => hb σ F1 H1 _ (k.grow g1) fun v2 F2 H2 g2 r2 => by
    cases r2
    cases r1 with
    | @tup a vs _ h1 h2 =>
      obtain ⟨v, h3, h4⟩ := (h2.mono g2.f).atI h
      exact ⟨a, vs, i, v, rfl, rfl, .inl (.inl (g2.s _ _ (g2.f _ _ h1))), h3, q v F2 H2 (g1.trans g2) h4⟩

/-! ### lists and tuples written -/
theorem ea_nil : EvA c A Γ tNil [] := fun σ F H Q k q => q [] F H (Gr.refl k.gr.s) .nil
theorem ea_cons {tr : TA} (h : EvG c A Γ te d) (hr : EvA c A Γ tr ds) : EvA c A Γ (tCons te tr) (d :: ds) := fun σ F H Q k q =>
  h σ F H _ k fun v F1 H1 g1 r1 => hr σ F1 H1 _ (k.grow g1) fun vs F2 H2 g2 r2 => q _ F2 H2 (g1.trans g2) (.cons (r1.mono g2.f) r2)
theorem EvA.h {ta : TA} (h : EvA c A Γ ta ds) : EvAH c A Γ ta ds := fun σ F H Q k q => h σ F H Q k fun vs F2 H2 g r => q vs F2 H2 g (r.mono g.s)
theorem eh_cons {tr : TA} (h : EvG c A Γ te d) (hr : EvAH c A Γ tr ds) : EvAH c A Γ (tCons te tr) (d :: ds) := fun σ F H Q k q =>
  h σ F H _ k fun v F1 H1 g1 r1 => hr σ F1 H1 _ (k.grow g1) fun vs F2 H2 g2 r2 => q _ F2 H2 (g1.trans g2) (.cons ((r1.mono g2.f).mono g2.s) r2)
/-- an own list as an argument that is only read -/
theorem eh_own {tr : TA} {i : Nat} (h : Γ[i]? = some (.own es)) (hr : EvAH c A Γ tr ds) : EvAH c A Γ (tCons (tVar i) tr) (.lst es :: ds) := fun σ F H Q k q => by
  obtain ⟨o, as, e, ⟨a, vs, _, rfl, hH, r⟩, _⟩ := k.change (g' := .any) (H' := H) h
  refine ⟨_, e, hr σ F H _ k fun vs2 F2 H2 g2 r2 => q _ F2 H2 g2 (.cons (.lst (g2.h _ _ hH) ((r.mono g2.f).mono g2.s)) r2)⟩
theorem ev_tup {ta : TA} (h : EvA c A Γ ta ds) (hl : ds.length ≤ 100000) : EvG c A Γ (tTup ta) (.tup ds) := fun σ F H Q k q =>
  h σ F H _ k fun vs F1 H1 g1 r1 => ⟨Nat.le_trans (by rw [r1.len]; exact hl) (by decide), fun p hp => q _ _ _ (g1.trans (Gr.new g1.s hp)) (.tup upd_same (r1.mono (Ex.new (g1.s.back hp))))⟩
theorem en_lst {ta : TA} (h : EvA c A Γ ta ds) (hl : ds.length ≤ 100000) : EvN c A Γ (tLst ta) ds := fun σ F H Q k q =>
  h σ F H _ k fun vs F1 H1 g1 r1 => ⟨Nat.le_trans (by rw [r1.len]; exact hl) (by decide), fun p hp =>
    q p vs F1 _ (g1.trans (Gr.out g1.s hp)) (g1.h.back hp) (g1.s.back hp) upd_same r1⟩

/-! ### tests -/
theorem et_test (h : EvG c A Γ te (.bl b)) : EvT c A Γ (tTest te) b := fun σ F H Q k q => h σ F H _ k fun v F2 H2 g r => by
  cases r; exact ⟨b, rfl, q F2 H2 g⟩
theorem et_B (h : EvG c A Γ te (.bl b)) : EvT c A Γ (tB te) b := fun σ F H Q k q => h σ F H _ k fun v F2 H2 g r => by
  cases r; exact ⟨b, rfl, q F2 H2 g⟩
theorem et_and {x y : Bool} (h1 : EvT c A Γ tt x) (h2 : x = true → EvT c A Γ tu y) : EvT c A Γ (tAnd tt tu) (x && y) := fun σ F H Q k q => h1 σ F H _ k fun F2 H2 g => by
  cases x with
  | true =>
    show tu σ H2 Q
    exact h2 rfl σ F2 H2 Q (k.grow g) fun F3 H3 g3 => q F3 H3 (g.trans g3)
  | false =>
    show Q false H2
    exact q F2 H2 g
theorem et_or {x y : Bool} (h1 : EvT c A Γ tt x) (h2 : x = false → EvT c A Γ tu y) : EvT c A Γ (tOr tt tu) (x || y) := fun σ F H Q k q => h1 σ F H _ k fun F2 H2 g => by
  cases x with
  | true =>
    show Q true H2
    exact q F2 H2 g
  | false =>
    show tu σ H2 Q
    exact h2 rfl σ F2 H2 Q (k.grow g) fun F3 H3 g3 => q F3 H3 (g.trans g3)
theorem et_not {x : Bool} (h1 : EvT c A Γ tt x) : EvT c A Γ (tNot tt) (!x) := fun σ F H Q k q => h1 σ F H _ k fun F2 H2 g => q F2 H2 g
theorem ev_andV {x y : Bool} (h1 : EvG c A Γ ta (.bl x)) (h2 : x = true → EvG c A Γ tb (.bl y)) : EvG c A Γ (tAndV ta tb) (.bl (x && y)) := fun σ F H Q k q => h1 σ F H _ k fun v F2 H2 g r => by
  cases r
  refine ⟨x, rfl, ?_⟩
  cases x with
  | true =>
    show tb σ H2 Q
    exact h2 rfl σ F2 H2 Q (k.grow g) fun v F3 H3 g3 r => q v F3 H3 (g.trans g3) r
  | false =>
    show Q (.bl false) H2
    exact q _ F2 H2 g (.bl _)
theorem ev_orV {x y : Bool} (h1 : EvG c A Γ ta (.bl x)) (h2 : x = false → EvG c A Γ tb (.bl y)) : EvG c A Γ (tOrV ta tb) (.bl (x || y)) := fun σ F H Q k q => h1 σ F H _ k fun v F2 H2 g r => by
  cases r
  refine ⟨x, rfl, ?_⟩
  cases x with
  | true =>
    show Q (.bl true) H2
    exact q _ F2 H2 g (.bl _)
  | false =>
    show tb σ H2 Q
    exact h2 rfl σ F2 H2 Q (k.grow g) fun v F3 H3 g3 r => q v F3 H3 (g.trans g3) r
theorem ev_notV {x : Bool} (h1 : EvG c A Γ ta (.bl x)) : EvG c A Γ (tNotV ta) (.bl (!x)) := fun σ F H Q k q => h1 σ F H _ k fun v F2 H2 g r => by
  cases r; exact ⟨x, rfl, q _ F2 H2 g (.bl _)⟩
theorem ev_if {x : Bool} (h : EvT c A Γ tt x) (h1 : x = true → EvG c A Γ ta d) (h2 : x = false → EvG c A Γ tb d) : EvG c A Γ (tIf tt ta tb) d := fun σ F H Q k q => h σ F H _ k fun F2 H2 g => by
  cases x with
  | true =>
    show ta σ H2 Q
    exact h1 rfl σ F2 H2 Q (k.grow g) fun v F3 H3 g3 r => q v F3 H3 (g.trans g3) r
  | false =>
    show tb σ H2 Q
    exact h2 rfl σ F2 H2 Q (k.grow g) fun v F3 H3 g3 r => q v F3 H3 (g.trans g3) r
/-- a < b < c, as a test -/
theorem et_chain {r r' : R2} {tc : TE} {d1 d2 d3 : D} {x y : Bool} (ha : EvG c A Γ ta d1) (hb : EvG c A Γ tb d2) (hc : EvG c A Γ tc d3)
    (hr : ∀ v1 v2 F H Q, Ex F H → Rp c.K F v1 d1 → Rp c.K F v2 d2 → Q (.bl x) H → r v1 v2 H Q) (hr' : ∀ v1 v2 F H Q, Ex F H → Rp c.K F v1 d2 → Rp c.K F v2 d3 → Q (.bl y) H → r' v1 v2 H Q) :
    EvT c A Γ (tTest (tChain r r' ta tb tc)) (x && y) := fun σ F H Q k q =>
  ha σ F H _ k fun v1 F1 H1 g1 r1 => hb σ F1 H1 _ (k.grow g1) fun v2 F2 H2 g2 r2 => hr v1 v2 F2 H2 _ g2.s (r1.mono g2.f) r2 (by
    refine ⟨x, rfl, ?_⟩
    have k2 := (k.grow g1).grow g2
    cases x with
    | false => exact ⟨false, rfl, q F2 H2 (g1.trans g2)⟩
    | true => exact hc σ F2 H2 _ k2 fun v3 F3 H3 g3 r3 => hr' v2 v3 F3 H3 _ g3.s (r2.mono g3.f) r3 ⟨y, rfl, q F3 H3 ((g1.trans g2).trans g3)⟩)

/-! ### in, == -/
def D.flat : D → Bool
  | .non => true
  | .bl _ => true
  | .int _ => true
  | .str _ => true
  | _ => false
theorem Rp.flatV {K : PySem.W.Frag} {F : Hp} {v : V} (r : Rp K F v d) : L2.flatV v = d.flat := by
  cases r <;> rfl
theorem inV_ints {K : PySem.W.Frag} {F : Hp} {i : Int} : ∀ {ns : List Int} {vs : List V}, RpA K F vs (ns.map D.int) → inV (.int i) vs = ns.contains i ∧ vs.all L2.flatV = true
  | [], _, .nil => ⟨rfl, rfl⟩
  | n :: ns, _, .cons r t => by
    cases r
    obtain ⟨h1, h2⟩ := inV_ints (i := i) t
    refine ⟨?_, by rw [List.all_cons, h2]; rfl⟩
    unfold inV at h1 ⊢
    rw [List.any_cons, h1, List.contains_cons]
    show ((n == i) || ns.contains i) = ((i == n) || ns.contains i)
    congr 1
    rw [Bool.eq_iff_iff, beq_iff_eq, beq_iff_eq]; exact ⟨Eq.symm, Eq.symm⟩
theorem ev_inL {i : Int} {ns : List Int} (ha : EvG c A Γ ta (.int i)) (hb : EvL c A Γ tb (ns.map D.int)) : EvG c A Γ (tOp (rIn c.K false) ta tb) (.bl (ns.contains i)) := fun σ F H Q k q =>
  ha σ F H _ k fun v1 F1 H1 g1 r1 => hb σ F1 H1 _ (k.grow g1) fun a vs F2 H2 g2 s2 r2 => by
    cases r1
    obtain ⟨h1, h2⟩ := inV_ints (i := i) r2
    exact ⟨a, vs, rfl, .inl s2, rfl, h2, by rw [if_neg Bool.false_ne_true, h1]; exact q _ F2 H2 (g1.trans g2) (.bl _)⟩
theorem ev_niL {i : Int} {ns : List Int} (ha : EvG c A Γ ta (.int i)) (hb : EvL c A Γ tb (ns.map D.int)) : EvG c A Γ (tOp (rIn c.K true) ta tb) (.bl (!ns.contains i)) := fun σ F H Q k q =>
  ha σ F H _ k fun v1 F1 H1 g1 r1 => hb σ F1 H1 _ (k.grow g1) fun a vs F2 H2 g2 s2 r2 => by
    cases r1
    obtain ⟨h1, h2⟩ := inV_ints (i := i) r2
    exact ⟨a, vs, rfl, .inl s2, rfl, h2, by rw [if_pos rfl, h1]; exact q _ F2 H2 (g1.trans g2) (.bl _)⟩
theorem ev_inT {i : Int} {ns : List Int} (ha : EvG c A Γ ta (.int i)) (hb : EvG c A Γ tb (.tup (ns.map D.int))) : EvG c A Γ (tOp (rIn c.K false) ta tb) (.bl (ns.contains i)) := fun σ F H Q k q =>
  ha σ F H _ k fun v1 F1 H1 g1 r1 => hb σ F1 H1 _ (k.grow g1) fun v2 F2 H2 g2 r2 => by
    cases r1
    cases r2 with
    | @tup a vs _ s2 r2 =>
      obtain ⟨h1, h2⟩ := inV_ints (i := i) r2
      exact ⟨a, vs, rfl, .inr (.inl (.inl (g2.s _ _ s2))), rfl, h2, by rw [if_neg Bool.false_ne_true, h1]; exact q _ F2 H2 (g1.trans g2) (.bl _)⟩
theorem ev_niT {i : Int} {ns : List Int} (ha : EvG c A Γ ta (.int i)) (hb : EvG c A Γ tb (.tup (ns.map D.int))) : EvG c A Γ (tOp (rIn c.K true) ta tb) (.bl (!ns.contains i)) := fun σ F H Q k q =>
  ha σ F H _ k fun v1 F1 H1 g1 r1 => hb σ F1 H1 _ (k.grow g1) fun v2 F2 H2 g2 r2 => by
    cases r1
    cases r2 with
    | @tup a vs _ s2 r2 =>
      obtain ⟨h1, h2⟩ := inV_ints (i := i) r2
      exact ⟨a, vs, rfl, .inr (.inl (.inl (g2.s _ _ s2))), rfl, h2, by rw [if_pos rfl, h1]; exact q _ F2 H2 (g1.trans g2) (.bl _)⟩
/-! as the library's data -/
mutual
def D.p : D → PyData
  | .non => .none
  | .bl b => .bool b
  | .int i => .int i
  | .str s => .str s
  | .lst ds => .list (D.pA ds)
  | .tup ds => .tuple (D.pA ds)
  | .sq ds => .list (D.pA ds)
  | .obj _ _ _ => .dict []
def D.pA : List D → List PyData
  | [] => []
  | d :: ds => d.p :: D.pA ds
end
/-! no object within -/
mutual
def D.dt : D → Bool
  | .lst ds => D.dtA ds
  | .tup ds => D.dtA ds
  | .sq ds => D.dtA ds
  | .obj _ _ _ => false
  | _ => true
def D.dtA : List D → Bool
  | [] => true
  | d :: ds => d.dt && D.dtA ds
end
mutual
theorem Rp.dp {K : PySem.W.Frag} {F H : Hp} (e : Ex F H) : ∀ {v : V} {d : D}, Rp K F v d → d.dt = true → Dp K H v d.p
  | _, _, .non, _ => .non
  | _, _, .bl b, _ => .bl b
  | _, _, .int b, _ => .int b
  | _, _, .str b, _ => .str b
  | _, _, .lst h r, q => .lst (.inl (.inl (e _ _ h))) (RpA.dp e r q)
  | _, _, .tup h r, q => .tup (.inl (.inl (e _ _ h))) (RpA.dp e r q)
  | _, _, .sq h r, q => .lst (e.sq h) (RpA.dp e r q)
  | _, _, .obj .., q => by cases q
theorem RpA.dp {K : PySem.W.Frag} {F H : Hp} (e : Ex F H) : ∀ {v : List V} {d : List D}, RpA K F v d → D.dtA d = true → DpAll K H v (D.pA d)
  | _, _, .nil, _ => .nil
  | _, d :: ds, .cons h r, q => by
    have q' : (d.dt && D.dtA ds) = true := q
    rw [Bool.and_eq_true] at q'
    exact .cons (Rp.dp e h q'.1) (RpA.dp e r q'.2)
end
theorem ev_eqD {d1 d2 : D} (ha : EvG c A Γ ta d1) (hb : EvG c A Γ tb d2) (h1 : d1.dt = true) (h2 : d2.dt = true) (s1 : SeqAt.shaped d1.p = true) (s2 : SeqAt.shaped d2.p = true) : EvG c A Γ (tOp (rEqD c.K) ta tb) (.bl (PyData.eqv d1.p d2.p)) :=
  ev_op ha hb fun v1 v2 F H Q e r1 r2 q => ⟨_, _, r1.dp e h1, r2.dp e h2, s1, s2, q _ F H (Gr.refl e) (.bl _)⟩
theorem ev_neD {d1 d2 : D} (ha : EvG c A Γ ta d1) (hb : EvG c A Γ tb d2) (h1 : d1.dt = true) (h2 : d2.dt = true) (s1 : SeqAt.shaped d1.p = true) (s2 : SeqAt.shaped d2.p = true) : EvG c A Γ (tOp (rNeD c.K) ta tb) (.bl (!PyData.eqv d1.p d2.p)) :=
  ev_op ha hb fun v1 v2 F H Q e r1 r2 q => ⟨_, _, r1.dp e h1, r2.dp e h2, s1, s2, q _ F H (Gr.refl e) (.bl _)⟩
/-- lists that may be own ones -/
theorem ev_eqL {es : List D} (ha : EvL c A Γ ta ds) (hb : EvL c A Γ tb es) (h1 : D.dtA ds = true) (h2 : D.dtA es = true) (s1 : SeqAt.shaped (D.lst ds).p = true) (s2 : SeqAt.shaped (D.lst es).p = true) : EvG c A Γ (tOp (rEqD c.K) ta tb) (.bl (PyData.eqv (D.lst ds).p (D.lst es).p)) := fun σ F H Q k q =>
  ha σ F H _ k fun a vs F1 H1 g1 q1 r1 => hb σ F1 H1 _ (k.grow g1) fun b ws F2 H2 g2 q2 r2 =>
    ⟨_, _, .lst (g2.h.sq q1) ((r1.mono g2.f).dp g2.s h1), .lst q2 (r2.dp g2.s h2), s1, s2, q _ F2 H2 (g1.trans g2) (.bl _)⟩
end
end DL
end
section
set_option Elab.async false
set_option linter.all false
set_option maxRecDepth 100000
set_option maxHeartbeats 4000000
/-! DL3: calls, builtins, fields, slices, comprehensions; statements and loops. -/
namespace DL
open PySem PySem.Spec L2

/-! ### readings with names -/
def rIxA (K : PySem.W.Frag) : R2 := rIx K
def rLenA (K : PySem.W.Frag) : List V → Hp → VK → Prop := fun xs H Q => ∃ x n, xs = [x] ∧ LenV K x H n ∧ Q (.int n) H
def rListA (K : PySem.W.Frag) : List V → Hp → VK → Prop := fun xs H Q => (∃ p ys, xs = [.ref p] ∧ (SqL K H p ys ∨ SqT K H p ys) ∧ ∀ l, H l = none → Q (.ref l) (upd H l (.lst ys))) ∨
  ∃ d kvs, xs = [V.ref d] ∧ Rd H d (.dT kvs) ∧ ∀ p bs, H p = none → IsKeys H kvs bs → Q (.ref p) (upd H p (.lst (bs.map V.ref)))
def rTupA (K : PySem.W.Frag) : List V → Hp → VK → Prop := fun xs H Q => ∃ p ys, xs = [.ref p] ∧ ((SqL K H p ys ∧ ∀ l, H l = none → Q (.ref l) (upd H l (.tup ys))) ∨ (SqT K H p ys ∧ Q (.ref p) H))
def rSortA (K : PySem.W.Frag) : List V → Hp → VK → Prop := fun xs H Q => rSortedI K xs H Q ∨ rSortedPO K xs H Q
def rMin2A : List V → Hp → VK → Prop := fun xs H Q => ∃ i j, xs = [.int i, .int j] ∧ Q (.int (if j < i then j else i)) H
def rMax2A : List V → Hp → VK → Prop := fun xs H Q => ∃ i j, xs = [.int i, .int j] ∧ Q (.int (if j > i then j else i)) H
def rInt1A : List V → Hp → VK → Prop := fun xs H Q => (∃ i, xs = [.int i] ∧ Q (.int i) H) ∨ ∃ k, xs = [.bl k] ∧ Q (.int (if k then 1 else 0)) H
def rIsNA : R2 := fun x y H Q => y = .non ∧ Q (.bl (decide (x = .non))) H
def rNotNA : R2 := fun x y H Q => y = .non ∧ Q (.bl (!decide (x = .non))) H
def rAddA : R2 := fun x y H Q => rI0 (fun i j => .int (i + j)) x y H Q ∨ rCat x y H Q
def tTru (K : PySem.W.Frag) (ta : TE) : TT := fun σ H Q => ta σ H fun x H' => ∃ k, TruV K x H' k ∧ Q k H'
section
variable {X : Cx}
theorem dl_len : CallR X (.builtin "len") (rLenA X.K) := call_len
theorem dl_list (hc : X.calm = true) : CallR X (.type "list") (rListA X.K) := CallR.or call_list_of (call_list_dT hc)
theorem dl_tuple : CallR X (.type "tuple") (rTupA X.K) := call_tuple_of
theorem dl_sorted : CallR X (.builtin "sorted") (rSortA X.K) := CallR.or cr_sortedI cr_sortedPO
theorem dl_min2 (hc : X.calm = true) : CallR X (.builtin "min") rMin2A := call_min2 hc
theorem dl_max2 (hc : X.calm = true) : CallR X (.builtin "max") rMax2A := call_max2 hc
theorem dl_int1 : CallR X (.type "int") rInt1A := call_int1
theorem dl_isN : OpR X (compareOp .Is) rIsNA := op_isN
theorem dl_notN : OpR X (compareOp .IsNot) rNotNA := op_notN
theorem dl_add : OpR X (binaryOp .Add) rAddA := OpR.or op_add op_cat
theorem dl_ix : IxR X (rIxA X.K) := ix_seq
theorem dl_truth {a : Expr} {ta : TE} (ha : PE X a ta) (he : ∀ whole, isTrue a X.env whole = (do let v ← whole; standAt a.pos; holding [v] (truthy v)) := by intro _; rfl) : PT X a (tTru X.K ta) := pt_truth ha he
end

section
variable {c : Ct} {A : Hp} {Γ : List Sl} {te ta tb : TE} {tt tu : TT} {d e : D} {ds es : List D} {b : Bool}
/-! ### the readings' answers -/
theorem ev_isNA (ha : EvG c A Γ ta d) : EvG c A Γ (tOp rIsNA ta (tC .non)) (.bl d.isNon) := ev_isN ha
theorem ev_notNA (ha : EvG c A Γ ta d) : EvG c A Γ (tOp rNotNA ta (tC .non)) (.bl (!d.isNon)) := ev_notN ha
theorem ev_addA {i j : Int} (ha : EvG c A Γ ta (.int i)) (hb : EvG c A Γ tb (.int j)) : EvG c A Γ (tOp rAddA ta tb) (.int (i + j)) :=
  ev_op ha hb fun v1 v2 F H Q e r1 r2 q => by
    cases r1; cases r2
    exact .inl ⟨i, j, rfl, rfl, q _ F H (Gr.refl e) (.int _)⟩
/-- xs + ys -/
theorem en_cat (ha : EvG c A Γ ta (.lst ds)) (hb : EvG c A Γ tb (.lst es)) (hl : ds.length + es.length ≤ 100000) : EvN c A Γ (tOp rAddA ta tb) (ds ++ es) := fun σ F H Q k q =>
  ha σ F H _ k fun v1 F1 H1 g1 r1 => hb σ F1 H1 _ (k.grow g1) fun v2 F2 H2 g2 r2 => by
    cases r1 with
    | @lst a xs _ h1 q1 =>
      cases r2 with
      | @lst b ys _ h2 q2 =>
        refine .inr ⟨a, b, xs, ys, rfl, rfl, g2.s _ _ (g2.f _ _ h1), g2.s _ _ h2, Nat.le_trans (by rw [q1.len, q2.len]; exact hl) (by decide), fun p hp => ?_⟩
        exact q p _ F2 _ ((g1.trans g2).trans (Gr.out g2.s hp)) ((g1.trans g2).h.back hp) (g2.s.back hp) upd_same ((q1.mono g2.f).append q2)
theorem ev_ixA {i : Int} (ha : EvL c A Γ ta ds) (hb : EvG c A Γ tb (.int i)) (h : atI ds i = some d) : EvG c A Γ (tOp (rIxA c.K) ta tb) d := fun σ F H Q k q => by
  have z := ev_ixL (tb := tb) ha hb h
  exact ha σ F H _ k fun a vs F1 H1 g1 s1 r1 => hb σ F1 H1 _ (k.grow g1) fun v2 F2 H2 g2 r2 => by
    cases r2
    obtain ⟨v, h1, h2⟩ := (r1.mono g2.f).atI h
    exact .inl ⟨a, vs, i, v, rfl, rfl, g2.h.sq s1, h1, q v F2 H2 (g1.trans g2) h2⟩
theorem ev_ixAT {i : Int} (ha : EvG c A Γ ta (.tup ds)) (hb : EvG c A Γ tb (.int i)) (h : atI ds i = some d) : EvG c A Γ (tOp (rIxA c.K) ta tb) d := fun σ F H Q k q =>
  ha σ F H _ k fun v1 F1 H1 g1 r1 => hb σ F1 H1 _ (k.grow g1) fun v2 F2 H2 g2 r2 => by
    cases r2
    cases r1 with
    | @tup a vs _ h1 h2 =>
      obtain ⟨v, h3, h4⟩ := (h2.mono g2.f).atI h
      exact .inr (.inl ⟨a, vs, i, v, rfl, rfl, .inl (.inl (g2.s _ _ (g2.f _ _ h1))), h3, q v F2 H2 (g1.trans g2) h4⟩)
theorem ev_len (ha : EvL c A Γ ta ds) : EvG c A Γ (tCB (rLenA c.K) (tCons ta tNil)) (.int (ds.length : Int)) := fun σ F H Q k q =>
  ha σ F H _ k fun a vs F1 H1 g1 s1 r1 => ⟨.ref a, vs.length, rfl, .inl ⟨vs, s1, rfl⟩, by rw [r1.len]; exact q _ F1 H1 g1 (.int _)⟩
theorem ev_lenT (ha : EvG c A Γ ta (.tup ds)) : EvG c A Γ (tCB (rLenA c.K) (tCons ta tNil)) (.int (ds.length : Int)) := fun σ F H Q k q =>
  ha σ F H _ k fun v1 F1 H1 g1 r1 => by
    cases r1 with
    | @tup a vs _ h1 h2 => exact ⟨.ref a, vs.length, rfl, .inr ⟨vs, .inl (.inl (g1.s _ _ h1)), rfl⟩, by rw [h2.len]; exact q _ F1 H1 g1 (.int _)⟩
theorem en_listL (ha : EvL c A Γ ta ds) : EvN c A Γ (tCB (rListA c.K) (tCons ta tNil)) ds := fun σ F H Q k q =>
  ha σ F H _ k fun a vs F1 H1 g1 s1 r1 => .inl ⟨a, vs, rfl, .inl s1, fun p hp => q p vs F1 _ (g1.trans (Gr.out g1.s hp)) (g1.h.back hp) (g1.s.back hp) upd_same r1⟩
theorem en_listT (ha : EvG c A Γ ta (.tup ds)) : EvN c A Γ (tCB (rListA c.K) (tCons ta tNil)) ds := fun σ F H Q k q =>
  ha σ F H _ k fun v1 F1 H1 g1 r1 => by
    cases r1 with
    | @tup a vs _ h1 r1 => exact .inl ⟨a, vs, rfl, .inr (.inl (.inl (g1.s _ _ h1))), fun p hp => q p vs F1 _ (g1.trans (Gr.out g1.s hp)) (g1.h.back hp) (g1.s.back hp) upd_same r1⟩
theorem ev_tupleL (ha : EvL c A Γ ta ds) : EvG c A Γ (tCB (rTupA c.K) (tCons ta tNil)) (.tup ds) := fun σ F H Q k q =>
  ha σ F H _ k fun a vs F1 H1 g1 s1 r1 => ⟨a, vs, rfl, .inl ⟨s1, fun p hp => q _ _ _ (g1.trans (Gr.new g1.s hp)) (.tup upd_same (r1.mono (Ex.new (g1.s.back hp))))⟩⟩
theorem ev_int1 {i : Int} (ha : EvG c A Γ ta (.int i)) : EvG c A Γ (tCB rInt1A (tCons ta tNil)) (.int i) := fun σ F H Q k q =>
  ha σ F H _ k fun v1 F1 H1 g1 r1 => by
    cases r1; exact .inl ⟨i, rfl, q _ F1 H1 g1 (.int _)⟩
theorem ev_intB {i : Bool} (ha : EvG c A Γ ta (.bl i)) : EvG c A Γ (tCB rInt1A (tCons ta tNil)) (.int (if i then 1 else 0)) := fun σ F H Q k q =>
  ha σ F H _ k fun v1 F1 H1 g1 r1 => by
    cases r1; exact .inr ⟨i, rfl, q _ F1 H1 g1 (.int _)⟩
theorem ev_min2 {i j : Int} (ha : EvG c A Γ ta (.int i)) (hb : EvG c A Γ tb (.int j)) : EvG c A Γ (tCB rMin2A (tCons ta (tCons tb tNil))) (.int (min i j)) := fun σ F H Q k q =>
  ha σ F H _ k fun v1 F1 H1 g1 r1 => hb σ F1 H1 _ (k.grow g1) fun v2 F2 H2 g2 r2 => by
    cases r1; cases r2
    refine ⟨i, j, rfl, ?_⟩
    have e : (if j < i then j else i) = min i j := by split <;> omega
    rw [e]; exact q _ F2 H2 (g1.trans g2) (.int _)
theorem ev_max2 {i j : Int} (ha : EvG c A Γ ta (.int i)) (hb : EvG c A Γ tb (.int j)) : EvG c A Γ (tCB rMax2A (tCons ta (tCons tb tNil))) (.int (max i j)) := fun σ F H Q k q =>
  ha σ F H _ k fun v1 F1 H1 g1 r1 => hb σ F1 H1 _ (k.grow g1) fun v2 F2 H2 g2 r2 => by
    cases r1; cases r2
    refine ⟨i, j, rfl, ?_⟩
    have e : (if j > i then j else i) = max i j := by split <;> omega
    rw [e]; exact q _ F2 H2 (g1.trans g2) (.int _)
theorem ev_neg {i : Int} (ha : EvG c A Γ ta (.int i)) : EvG c A Γ (tUn (rU fun i => .int (-i)) ta) (.int (-i)) := fun σ F H Q k q =>
  ha σ F H _ k fun v1 F1 H1 g1 r1 => by
    cases r1; exact ⟨i, rfl, q _ F1 H1 g1 (.int _)⟩
/-- max of a list of ints: m is told by its facts -/
theorem ev_maxL {ns : List Int} {m : Int} (ha : EvL c A Γ ta (ns.map D.int)) (hm : m ∈ ns) (hle : ∀ y ∈ ns, y ≤ m) : EvG c A Γ (tCB (rMax c.K) (tCons ta tNil)) (.int m) := fun σ F H Q k q =>
  ha σ F H _ k fun a vs F1 H1 g1 s1 r1 => by
    have e := r1.ints
    subst e
    refine ⟨a, ns, rfl, s1, List.length_pos_of_mem hm, fun m' h1 h2 => ?_⟩
    have e : m' = m := Int.le_antisymm (hle _ h1) (h2 _ hm)
    rw [e]; exact q _ F1 H1 g1 (.int _)
theorem ev_allL {bs : List Bool} (ha : EvL c A Γ ta (bs.map D.bl)) : EvG c A Γ (tCB (rAll c.K) (tCons ta tNil)) (.bl (bs.all id)) := fun σ F H Q k q =>
  ha σ F H _ k fun a vs F1 H1 g1 s1 r1 => by
    have e := r1.bools
    subst e
    exact ⟨a, bs, rfl, s1, q _ F1 H1 g1 (.bl _)⟩
/-- sorted, ints -/
theorem en_sortI {ns ms : List Int} (ha : EvL c A Γ ta (ns.map D.int)) (hm : ∀ l : List Int, l.Perm ns → l.Pairwise (· ≤ ·) → l = ms) : EvN c A Γ (tCB (rSortA c.K) (tCons ta tNil)) (ms.map D.int) := fun σ F H Q k q =>
  ha σ F H _ k fun a vs F1 H1 g1 s1 r1 => by
    have e := r1.ints
    subst e
    refine .inl ⟨a, ns, rfl, s1, fun l p h1 h2 hp => ?_⟩
    rw [hm l h1 h2]
    exact q p _ F1 _ (g1.trans (Gr.out g1.s hp)) (g1.h.back hp) (g1.s.back hp) upd_same (RpA.ofInts _)
/-- pairs of ints -/
def dP (p : Int × Int) : D := .tup [.int p.1, .int p.2]
theorem Rp.pair {K : PySem.W.Frag} {F : Hp} {v : V} {p : Int × Int} (r : Rp K F v (dP p)) : ∃ a, v = .ref a ∧ F a = some (.tup [.int p.1, .int p.2]) := by
  cases r with
  | @tup a xs _ h1 h2 =>
    cases h2 with
    | cons a1 t1 =>
      cases t1 with
      | cons a2 t2 =>
        cases t2; cases a1; cases a2
        exact ⟨a, rfl, h1⟩
def keyOf (F : Hp) (v : V) : Int × Int := match v with
  | .ref a => (match F a with
    | some (.tup [.int i, .int j]) => (i, j)
    | _ => (0, 0))
  | _ => (0, 0)
theorem keyOf_pair {K : PySem.W.Frag} {F : Hp} {v : V} {p : Int × Int} (r : Rp K F v (dP p)) : keyOf F v = p := by
  obtain ⟨a, rfl, h⟩ := r.pair
  unfold keyOf
  simp [h]
theorem keys_map {K : PySem.W.Frag} {F : Hp} : ∀ {vs : List V} {ps : List (Int × Int)}, RpA K F vs (ps.map dP) → vs.map (keyOf F) = ps
  | _, [], .nil => rfl
  | _, p :: ps, .cons r t => by rw [List.map_cons, keyOf_pair r, keys_map t]
theorem rpa_of_perm {K : PySem.W.Frag} {F : Hp} {vs : List V} {ps : List (Int × Int)} (h : RpA K F vs (ps.map dP)) : ∀ {ws : List V}, (∀ w ∈ ws, w ∈ vs) → RpA K F ws ((ws.map (keyOf F)).map dP)
  | [], _ => .nil
  | w :: ws, hm => by
    obtain ⟨d, hd, r⟩ := h.mem (hm w (List.mem_cons_self ..))
    obtain ⟨p, hp, rfl⟩ := List.mem_map.mp hd
    refine .cons ?_ (rpa_of_perm h fun x hx => hm x (List.mem_cons_of_mem _ hx))
    rw [keyOf_pair r]; exact r
theorem en_sortP {ps qs : List (Int × Int)} (ha : EvL c A Γ ta (ps.map dP)) (hm : ∀ l : List (Int × Int), l.Perm ps → l.Pairwise (fun x y => SrtO.lexB y x = false) → l = qs) : EvN c A Γ (tCB (rSortA c.K) (tCons ta tNil)) (qs.map dP) := fun σ F H Q k q =>
  ha σ F H _ k fun a vs F1 H1 g1 s1 r1 => by
    refine .inr ⟨a, vs, keyOf F1, rfl, s1, fun x hx => ?_, fun ys p h1 h2 hp => ?_⟩
    · obtain ⟨d, hd, r⟩ := r1.mem hx
      obtain ⟨z, hz, rfl⟩ := List.mem_map.mp hd
      obtain ⟨t, rfl, ht⟩ := r.pair
      exact ⟨t, rfl, by rw [keyOf_pair r]; exact g1.s _ _ ht⟩
    · have hr := rpa_of_perm r1 (ws := ys) fun w hw => h2.perm.mem_iff.mp hw
      have e : ys.map (keyOf F1) = qs := hm _ (by
        have := h2.perm.map (keyOf F1)
        rw [keys_map r1] at this
        exact this) (List.pairwise_map.mpr h1)
      rw [e] at hr
      exact q p _ F1 _ (g1.trans (Gr.out g1.s hp)) (g1.h.back hp) (g1.s.back hp) upd_same hr
/-- truth -/
theorem et_truB {x : Bool} (h : EvG c A Γ te (.bl x)) : EvT c A Γ (tTru c.K te) x := fun σ F H Q k q => h σ F H _ k fun v F2 H2 g r => by
  cases r; exact ⟨x, rfl, q F2 H2 g⟩
theorem et_truL (h : EvL c A Γ te ds) : EvT c A Γ (tTru c.K te) (!ds.isEmpty) := fun σ F H Q k q => h σ F H _ k fun a vs F2 H2 g s r => by
  refine ⟨!vs.isEmpty, .inl ⟨vs, s, rfl⟩, ?_⟩
  have e : vs.isEmpty = ds.isEmpty := by
    rw [Bool.eq_iff_iff, List.isEmpty_iff, List.isEmpty_iff]
    have := r.len
    constructor
    · intro h; subst h; exact List.length_eq_zero_iff.mp this.symm
    · intro h; subst h; exact List.length_eq_zero_iff.mp this
  rw [e]; exact q F2 H2 g
/-! ### slices -/
def cutD (xs : List D) (lo hi : Option Int) : List D := (xs.drop (HT.sIx xs.length 0 lo)).take (HT.sIx xs.length xs.length hi - HT.sIx xs.length 0 lo)
theorem eo_none : EvO c A Γ tNoPart none := fun σ F H Q k q => q F H (Gr.refl k.gr.s)
theorem eo_some {i : Int} (h : EvG c A Γ te (.int i)) : EvO c A Γ (tPart te) (some i) := fun σ F H Q k q => h σ F H _ k fun v F2 H2 g r => by
  cases r; exact ⟨i, rfl, q F2 H2 g⟩
theorem en_slice {tl th : TO} {lo hi : Option Int} (h : EvL c A Γ te ds) (h1 : EvO c A Γ tl lo) (h2 : EvO c A Γ th hi) : EvN c A Γ (tSl (rSlL c.K) te tl th) (cutD ds lo hi) := fun σ F H Q k q =>
  h σ F H _ k fun a vs F1 H1 g1 s1 r1 => h1 σ F1 H1 _ (k.grow g1) fun F2 H2 g2 => h2 σ F2 H2 _ ((k.grow g1).grow g2) fun F3 H3 g3 =>
    ⟨a, vs, rfl, (g2.trans g3).h.sq s1, fun p hp => q p _ F3 _ (((g1.trans g2).trans g3).trans (Gr.out g3.s hp)) (((g1.trans g2).trans g3).h.back hp) (g3.s.back hp) upd_same (by
      unfold cutV cutD
      rw [← r1.len]
      exact ((r1.mono (g2.trans g3).f).drop _).take _)⟩
theorem en_rev (h : EvL c A Γ te ds) : EvN c A Γ (tRevL c.K te) ds.reverse := fun σ F H Q k q =>
  h σ F H _ k fun a vs F1 H1 g1 s1 r1 => ⟨a, vs, rfl, s1, fun p hp => q p _ F1 _ (g1.trans (Gr.out g1.s hp)) (g1.h.back hp) (g1.s.back hp) upd_same r1.rev⟩
/-- list(range(n)) -/
theorem en_lstRg {n : Nat} (h : EvG c A Γ te (.int (n : Int))) (hn : n ≤ 10000) : EvN c A Γ (tLstRg (tRg1 te)) ((List.range n).map fun i : Nat => D.int (i : Int)) := fun σ F H Q k q =>
  h σ F H _ k fun v F1 H1 g1 r1 => by
    cases r1
    refine ⟨(n : Int), rfl, RgOk.of_le (by omega) (by omega) (by omega) (by omega), fun p hp => ?_⟩
    refine q p _ F1 _ (g1.trans (Gr.out g1.s hp)) (g1.h.back hp) (g1.s.back hp) upd_same ?_
    have e : rgV 0 (n : Int) = ((List.range n).map fun i : Nat => (i : Int)).map V.int := by
      unfold rgV
      rw [List.map_map]
      have e1 : ((n : Int) - 0).toNat = n := by omega
      rw [e1]
      apply List.map_congr_left
      intro i _
      show V.int (0 + (i : Int)) = V.int (i : Int)
      rw [Int.zero_add]
    rw [e]
    have := RpA.ofInts (K := c.K) (F := F1) ((List.range n).map fun i : Nat => (i : Int))
    rw [List.map_map (g := D.int)] at this
    exact this
/-! ### fields, isinstance -/
theorem ev_fld {C : Addr} {ns : List Str} {f : Str} (h : EvG c A Γ te (.obj C ns ds)) (hc : Cls c.K C) (hn : NoAttr c.K C f) (hl : (ns.zip ds).lookup f = some d) : EvG c A Γ (tFld c.K te f) d := fun σ F H Q k q =>
  h σ F H _ k fun v F1 H1 g1 r1 => by
    cases r1 with
    | @obj a _ dx _ vs _ h1 h2 h3 =>
      obtain ⟨w, e1, e2⟩ := h3.zipLookup hl
      exact ⟨a, C, dx, _, w, rfl, g1.s _ _ h1, hc, hn, e1, q w F1 H1 g1 e2⟩
def D.ty : D → Option String
  | .non => some "NoneType"
  | .bl _ => some "bool"
  | .int _ => some "int"
  | .str _ => some "str"
  | .lst _ => some "list"
  | .tup _ => some "tuple"
  | _ => none
theorem Rp.ty {K : PySem.W.Frag} {F H : Hp} (e : Ex F H) {v : V} {t : String} (r : Rp K F v d) (h : d.ty = some t) : TyX K H v (.type t) := by
  cases r with
  | non => cases h; exact .base .non
  | bl b => cases h; exact .base (.bl b)
  | int b => cases h; exact .base (.int b)
  | str b => cases h; exact .base (.str b)
  | lst h1 _ => cases h; exact .base (.lst (e _ _ h1))
  | tup h1 _ => cases h; exact .base (.tup (e _ _ h1))
  | sq _ _ => cases h
  | obj _ _ _ => cases h
/-- isinstance(x, T), T a built-in type -/
theorem ev_isi {t n : String} {r : Bool} (h : EvG c A Γ te d) (ht : d.ty = some t) (hk : kitB t n = some r) : EvG c A Γ (tCB (rIsi c.K) (tCons te (tCons (tC (.ty n)) tNil))) (.bl r) := fun σ F H Q k q =>
  h σ F H _ k fun v F1 H1 g1 r1 => ⟨v, .ty n, .type t, .type n, r, rfl, .ty n, r1.ty g1.s ht, kit_ty hk, q _ F1 H1 g1 (.bl _)⟩
/-- isinstance(x, C), x of the own class C -/
structure InsK (K : PySem.W.Frag) (C : Addr) : Prop where
  cl : Cls K C
  ha : PySem.W.findIn K (.ref C) "__class__" = some (some (.builtin "object.__class__"))
  hn : PySem.W.specialIn K (.builtin "object.__class__") "__get__" = some (some (.builtin "getset_descriptor.__get__"))
  htk : PySem.W.takesIn K (.builtin "object.__class__") = some true
  hm : PySem.W.mroIn K C (.type "object") = some true
  me : PySem.W.kitOne K (.ref C) (.ref C) = some true
theorem ev_isiC {C : Addr} {ns : List Str} (i : InsK c.K C) (h : EvG c A Γ te (.obj C ns ds)) : EvG c A Γ (tCB (rIsi c.K) (tCons te (tCons (tC (.ref C)) tNil))) (.bl true) := fun σ F H Q k q =>
  h σ F H _ k fun v F1 H1 g1 r1 => by
    cases r1 with
    | @obj a _ dx _ vs _ h1 h2 h3 =>
      exact ⟨.ref a, .ref C, .ref C, .ref C, true, rfl, .own C, .base (.ins (g1.s _ _ h1) i.cl i.ha i.hn i.htk i.hm), i.me, q _ F1 H1 g1 (.bl _)⟩
/-! ### promises -/
/-- arguments that are data of which pre holds give data that R tells -/
def spD (K : PySem.W.Frag) (pre : List D → Prop) (R : List D → D → Prop) : Sp := fun vs H Q _ => ∃ F ds, Ex F H ∧ RpA K F vs ds ∧ pre ds ∧ ∀ v d F2 H2, R ds d → Gr F H F2 H2 → Rp K F2 v d → Q v H2
theorem ev_call {pre : List D → Prop} {R : List D → D → Prop} {E : XK} {ta : TA} (h : EvA c A Γ ta ds) (hp : pre ds) : EvR c A Γ (tCall (spD c.K pre R) [] E ta) (R ds) := fun σ F H Q k q =>
  h σ F H _ k fun vs F1 H1 g1 r1 => ⟨F1, ds, g1.s, by rw [List.append_nil]; exact r1, hp, fun v d F2 H2 hR g r => q v d F2 H2 hR (g1.trans g) r⟩
def D.scal : D → Bool
  | .non => true
  | .bl _ => true
  | .int _ => true
  | .str _ => true
  | _ => false
theorem Rp.scal {K : PySem.W.Frag} {F F' : Hp} {v : V} (r : Rp K F v d) (h : d.scal = true) : Rp K F' v d := by
  cases r with
  | non => exact .non
  | bl b => exact .bl b
  | int b => exact .int b
  | str b => exact .str b
  | lst _ _ => cases h
  | tup _ _ => cases h
  | sq _ _ => cases h
  | obj _ _ _ => cases h
/-- own lists are only read, the answer is a scalar -/
theorem ev_callH {pre : List D → Prop} {R : List D → D → Prop} {E : XK} {ta : TA} (h : EvAH c A Γ ta ds) (hp : pre ds) (hs : ∀ d, R ds d → d.scal = true) : EvR c A Γ (tCall (spD c.K pre R) [] E ta) (R ds) := fun σ F H Q k q =>
  h σ F H _ k fun vs F1 H1 g1 r1 => ⟨H1, ds, Ex.refl _, by rw [List.append_nil]; exact r1, hp, fun v d F2 H2 hR g r => q v d F1 H2 hR ⟨g1.f, g1.h.trans g.h, g1.s.trans g.h, g1.n⟩ (r.scal (hs d hR))⟩
theorem ev_meth {C : Addr} {m : Str} {ns : List Str} {fs : List D} {pre : List D → Prop} {R : List D → D → Prop} {E : XK} {t : TA} (h : EvG c A Γ te (.obj C ns fs)) (hm : ns.contains m = false) (ha : EvA c A Γ t ds) (hp : pre (.obj C ns fs :: ds)) :
    EvR c A Γ (tMeth C m (spD c.K pre R) [] E te t) (R (.obj C ns fs :: ds)) := fun σ F H Q k q =>
  h σ F H _ k fun v F1 H1 g1 r1 => by
    have r1' := r1
    cases r1 with
    | @obj a _ dx _ vs _ h1 h2 h3 =>
      exact ⟨a, dx, _, rfl, g1.s _ _ h1, zip_lookup_none hm, ha σ F1 H1 _ (k.grow g1) fun ws F2 H2 g2 r2 =>
        ⟨F2, .obj C ns fs :: ds, g2.s, by rw [List.append_nil]; exact .cons (r1'.mono g2.f) r2, hp, fun v d F3 H3 hR g r => q v d F3 H3 hR ((g1.trans g2).trans g) r⟩⟩
/-- what an __init__ promises: the new instance's fields -/
def spI (K : PySem.W.Frag) (C : Addr) (ns : List Str) (pre : List D → Prop) (R : List D → List D → Prop) : Sp := fun vs H Q _ => ∃ F x dx vs' ds, vs = .ref x :: vs' ∧ H x = some (.ins C dx []) ∧ F x = none ∧ Ex F H ∧ RpA K F vs' ds ∧ pre ds ∧
  ∀ F2 H2 ws fs, R ds fs → Gr F (fun b => if b = x then none else H b) F2 H2 → F2 x = none → H2 x = some (.ins C dx (ns.zip ws)) → ns.length = ws.length → RpA K F2 ws fs → Q .non H2
theorem ev_make {C : Addr} {ns : List Str} {pre : List D → Prop} {R : List D → List D → Prop} {E : XK} {t : TA} (ha : EvA c A Γ t ds) (hp : pre ds) :
    EvR c A Γ (tMake C (spI c.K C ns pre R) [] E t) (fun d => ∃ fs, R ds fs ∧ d = .obj C ns fs) := fun σ F H Q k q =>
  ha σ F H _ k fun vs F1 H1 g1 r1 x dx hx hdx ne => by
    have fx : F1 x = none := g1.s.back hx
    have h1 : Ex H1 (upd (upd H1 dx (.own x)) x (.ins C dx [])) := (Ex.new hdx).mut hx
    refine ⟨F1, x, dx, vs, ds, by rw [List.append_nil], upd_same, fx, g1.s.trans h1, r1, hp, fun F2 H2 ws fs hR g f2 h2 hl r => ⟨rfl, ?_⟩⟩
    have hH : Ex H1 H2 := fun b o hb => by
      have nb : b ≠ x := ne_of_none hb hx
      refine g.h b o ?_
      show (if b = x then none else upd (upd H1 dx (.own x)) x (.ins C dx []) b) = some o
      rw [if_neg nb]
      exact h1 b o hb
    have e2 : Ex F2 (upd F2 x (.ins C dx (ns.zip ws))) := Ex.new f2
    refine q (.ref x) (.obj C ns fs) (upd F2 x (.ins C dx (ns.zip ws))) H2 ⟨fs, hR, rfl⟩ (g1.trans ⟨g.f.trans e2, hH, fun b o hb => ?_, fun b o h1 ht h2 => ?_⟩) (.obj upd_same hl (r.mono e2))
    · by_cases e : b = x
      · subst e; rw [upd_same] at hb; cases hb; exact h2
      · rw [upd_ne e] at hb; exact g.s _ _ hb
    · have nb : b ≠ x := ne_of_none h1 hx
      rw [upd_ne nb]
      refine g.n b o ?_ ht h2
      show (if b = x then none else upd (upd H1 dx (.own x)) x (.ins C dx []) b) = some o
      rw [if_neg nb, upd_ne nb, upd_ne (ne_of_none h1 hdx)]
      exact h1
end
end DL
end
section
set_option Elab.async false
set_option linter.all false
set_option maxRecDepth 100000
set_option maxHeartbeats 4000000
/-! DL4: statements, targets, loops, comprehensions, own lists. -/
namespace DL
open PySem PySem.Spec L2

abbrev GoN (c : Ct) (A : Hp) (Γ : List Sl) (P : L2.St → Hp → Prop) : Prop := ∀ σ F H, Know c A Γ σ F H → P σ H
abbrev GoS (c : Ct) (A : Hp) (Γ : List Sl) (t : TS) (D' : Ends) : Prop := ∀ σ F H, Know c A Γ σ F H → t D' σ H
def RetOk (c : Ct) (R : D → Prop) (rt : VK) : Prop := ∀ v d F H, R d → Gr c.F0 c.H0 F H → Rp c.K F v d → rt v H
/-- a value, some own objects changed on the way -/
def EvX (c : Ct) (A : Hp) (Γ : List Sl) (te : TE) (d : D) (Γ' : List Sl) : Prop := ∀ σ F H Q, Know c A Γ σ F H → (∀ v F2 H2, Know c A Γ' σ F2 H2 → Rp c.K F2 v d → Q v H2) → te σ H Q
/-- data is stored to a target: the slots js change -/
def GoG (c : Ct) (A : Hp) (Γ : List Sl) (g : TG) (d : D) (Γ' : List Sl) (js : List Nat) : Prop := ∀ σ F H v (Q : L2.St → Hp → Prop), Know c A Γ σ F H → Rp c.K F v d → (∀ σ', Know c A Γ' σ' F H → (∀ vs, (∀ j ∈ js, j ∈ vs) → wipe σ' vs = wipe σ vs) → Q σ' H) → g v σ H Q
def GoGs (c : Ct) (A : Hp) (Γ : List Sl) (g : TGs) (ds : List D) (Γ' : List Sl) (js : List Nat) : Prop := ∀ σ F H xs (Q : L2.St → Hp → Prop), Know c A Γ σ F H → RpA c.K F xs ds → (∀ σ', Know c A Γ' σ' F H → (∀ vs, (∀ j ∈ js, j ∈ vs) → wipe σ' vs = wipe σ vs) → Q σ' H) → g xs σ H Q
section
variable {c : Ct} {A : Hp} {Γ Γ' Γ'' : List Sl} {te ta tb : TE} {tt tu : TT} {d e : D} {ds es : List D} {b : Bool} {De : Ends} {t u : TS} {R : D → Prop} {i j : Nat}
/-! ### statements -/
theorem g_seq (h : GoS c A Γ t { De with nx := u De }) : GoS c A Γ (tSeq t u) De := h
theorem g_next (h : GoN c A Γ De.nx) : GoS c A Γ tNext De := h
theorem g_cont (h : GoN c A Γ De.ct) : GoS c A Γ tCont De := h
theorem g_break (h : GoN c A Γ De.bk) : GoS c A Γ tBreak De := h
theorem g_wk (w : Wk Γ Γ') (h : GoS c A Γ' t De) : GoS c A Γ t De := fun σ F H k => h σ F H (k.wk w)
theorem n_wk {P : L2.St → Hp → Prop} (w : Wk Γ Γ') (h : GoN c A Γ' P) : GoN c A Γ P := fun σ F H k => h σ F H (k.wk w)
theorem g_setR (h : EvR c A Γ te R) (hi : i < Γ.length) (k : ∀ d, R d → GoN c A (Γ.set i (.dat d)) De.nx) : GoS c A Γ (tAsg te (gName i)) De := fun σ F H q =>
  h σ F H _ q fun v d F2 H2 hR g r => k d hR _ F2 H2 ((q.grow g).set hi r)
theorem g_set (h : EvG c A Γ te d) (hi : i < Γ.length) (k : GoN c A (Γ.set i (.dat d)) De.nx) : GoS c A Γ (tAsg te (gName i)) De :=
  g_setR h.r hi fun _ e => e ▸ k
/-- x = a new list, an own one -/
theorem g_setN (h : EvN c A Γ te ds) (hi : i < Γ.length) (k : GoN c A (Γ.set i (.own ds)) De.nx) : GoS c A Γ (tAsg te (gName i)) De := fun σ F H q =>
  h σ F H _ q fun a vs F2 H2 g h1 h2 h3 r => k _ F2 H2 (q.putNew g (as2 := [a]) hi ⟨a, vs, rfl, rfl, h3, r⟩ (by simp) (fun b hb => by
    simp at hb; subst hb; exact ⟨h1, h2⟩))
/-- x = {}, pairs will be its keys -/
theorem g_setD (hi : i < Γ.length) (k : GoN c A (Γ.set i (.dic [])) De.nx) : GoS c A Γ (tAsg tDNewT (gName i)) De := fun σ F H q p hp =>
  k _ F _ (q.putNew (Gr.out q.gr.s hp) (as2 := [p]) hi ⟨p, rfl, rfl, upd_same⟩ (by simp) (fun b hb => by
    simp at hb; subst hb; exact ⟨hp, q.gr.s.back hp⟩))
theorem g_ret (h : EvR c A Γ te R) {R' : D → Prop} (hk : RetOk c R' De.rt) (k : ∀ d, R d → R' d) : GoS c A Γ (tRet te) De := fun σ F H q =>
  h σ F H _ q fun v d F2 H2 hR g r => hk v d F2 H2 (k d hR) (q.gr.trans g) r
theorem g_retG (h : EvG c A Γ te d) (hk : RetOk c R De.rt) (k : R d) : GoS c A Γ (tRet te) De := g_ret h.r hk fun _ e => e ▸ k
theorem g_retN (hk : RetOk c R De.rt) (k : R .non) : GoS c A Γ tRetN De := fun σ F H q => hk _ _ F H k q.gr .non
theorem g_if (h : EvT c A Γ tt b) (h1 : b = true → GoS c A Γ t De) (h2 : b = false → GoS c A Γ u De) : GoS c A Γ (tIfS tt t u) De := fun σ F H q =>
  h σ F H _ q fun F2 H2 g => by
    cases b with
    | true =>
      show t De σ H2
      exact h1 rfl σ F2 H2 (q.grow g)
    | false =>
      show u De σ H2
      exact h2 rfl σ F2 H2 (q.grow g)
theorem g_ifF (h : EvT c A Γ tt false) (h2 : GoS c A Γ u De) : GoS c A Γ (tIfS tt t u) De := g_if h (fun e => by cases e) fun _ => h2
theorem g_ifT (h : EvT c A Γ tt true) (h2 : GoS c A Γ t De) : GoS c A Γ (tIfS tt t u) De := g_if h (fun _ => h2) fun e => by cases e
theorem g_drop (h : EvG c A Γ te d) (k : GoN c A Γ De.nx) : GoS c A Γ (tDrop te) De := fun σ F H q => h σ F H _ q fun v F2 H2 g r => k σ F2 H2 (q.grow g)
/-! ### own lists -/
theorem set_same {α : Type} {l : List α} {x : α} (h : l[i]? = some x) : l.set i x = l := by
  apply List.ext_getElem?
  intro j
  by_cases q : i = j
  · subst q
    obtain ⟨hlt, e⟩ := List.getElem?_eq_some_iff.mp h
    rw [List.getElem?_set_self hlt, h]
  · rw [List.getElem?_set_ne q]
/-- what an own list's slot says, and how the list may be changed -/
theorem Know.own {σ : L2.St} {F H : Hp} (k : Know c A Γ σ F H) (h : Γ[i]? = some (.own ds)) : ∃ a vs, σ[i]? = some (some (.ref a)) ∧ H a = some (.lst vs) ∧ RpA c.K F vs ds ∧ F a = none ∧
    ∀ vs' ds', RpA c.K F vs' ds' → Know c A (Γ.set i (.own ds')) σ F (upd H a (.lst vs')) := by
  obtain ⟨_, _, e, ⟨a, vs, rfl, rfl, hH, r⟩, nd, hn, _⟩ := k.change (g' := .own ds) (H' := H) h
  refine ⟨a, vs, e, hH, r, (hn a (by simp)).1, fun vs' ds' r' => ?_⟩
  obtain ⟨o2, as2, e2, ⟨a2, vs2, q1, q2, q3, q4⟩, _, _, ch⟩ := k.change (g' := .own ds') (H' := upd H a (.lst vs')) h
  rw [e] at e2; cases e2; cases q2
  exact ch (fun b hb => upd_ne fun z => hb (by rw [q1, z]; simp)) ⟨a, vs', q1, rfl, upd_same, r'⟩
theorem x_of (h : EvG c A Γ te d) : EvX c A Γ te d Γ := fun σ F H Q k q => h σ F H Q k fun v F2 H2 g r => q v F2 H2 (k.grow g) r
theorem x_pop (h : Γ[i]? = some (.own ds)) (hd : ds[ds.length - 1]? = some d) : EvX c A Γ (tBM0 c.K "list" rPop (tVar i)) d (Γ.set i (.own ds.dropLast)) := fun σ F H Q k q => by
  obtain ⟨a, vs, e, hH, r, hn, ch⟩ := k.own h
  obtain ⟨v, h1, h2⟩ := r.get hd
  refine ⟨_, e, .inl ⟨rfl, vs, .inl (.inl hH)⟩, a, vs, v, rfl, rfl, hH, by rw [r.len]; exact h1, ?_⟩
  exact q v F _ (ch _ _ r.dropLast) h2
theorem seqIx {n j : Nat} (h : j < n) : seqIndex? (j : Int) n = some j := by
  unfold seqIndex?
  have h1 : ¬ ((j : Int) < 0) := by omega
  simp only [h1, if_false]
  have h2 : (decide (0 ≤ (j : Int)) && decide ((j : Int) < (n : Int))) = true := by
    rw [Bool.and_eq_true]; exact ⟨decide_eq_true (by omega), decide_eq_true (by omega)⟩
  rw [h2]; simp
theorem x_popAt (h : Γ[i]? = some (.own ds)) (hb : EvG c A Γ tb (.int (j : Int))) (hd : ds[j]? = some d) (hl : ds.length ≤ 100000) : EvX c A Γ (tBM c.K "list" rPopAt (tVar i) (tCons tb tNil)) d (Γ.set i (.own (ds.eraseIdx j))) := fun σ F H Q k q => by
  obtain ⟨a, vs, e, hH, r, hn, ch⟩ := k.own h
  refine ⟨_, e, .inl ⟨rfl, vs, .inl (.inl hH)⟩, ?_⟩
  refine hb σ F H _ k fun v2 F2 H2 g r2 => ?_
  cases r2
  obtain ⟨a', vs', e', hH', r', hn', ch'⟩ := (k.grow g).own h
  rw [e] at e'; cases e'
  obtain ⟨v, h1, h2⟩ := r'.get hd
  have hj : j < ds.length := (List.getElem?_eq_some_iff.mp hd).1
  exact ⟨a, vs', (j : Int), j, v, rfl, rfl, hH', by omega, by omega, by rw [r'.len]; exact seqIx hj, h1, q v F2 _ (ch' _ _ (r'.erase j)) h2⟩
theorem x_addA {i j : Int} (ha : EvX c A Γ ta (.int i) Γ') (hb : EvG c A Γ' tb (.int j)) : EvX c A Γ (tOp rAddA ta tb) (.int (i + j)) Γ' := fun σ F H Q k q =>
  ha σ F H _ k fun v1 F1 H1 k1 r1 => hb σ F1 H1 _ k1 fun v2 F2 H2 g2 r2 => by
    cases r1; cases r2
    exact .inl ⟨i, j, rfl, rfl, q _ F2 H2 (k1.grow g2) (.int _)⟩
theorem g_setX (h : EvX c A Γ te d Γ') (hi : i < Γ'.length) (k : GoN c A (Γ'.set i (.dat d)) De.nx) : GoS c A Γ (tAsg te (gName i)) De := fun σ F H q =>
  h σ F H _ q fun v F2 H2 k2 r => k _ F2 H2 (k2.set hi r)
theorem g_dropX (h : EvX c A Γ te d Γ') (k : GoN c A Γ' De.nx) : GoS c A Γ (tDrop te) De := fun σ F H q => h σ F H _ q fun v F2 H2 k2 r => k _ F2 H2 k2
/-- xs.append(e) -/
theorem g_appX (h0 : Γ[i]? = some (.own es)) (h : EvX c A Γ te d Γ') (h' : Γ'[i]? = some (.own ds)) (hl : ds.length < 100000) (k : GoN c A (Γ'.set i (.own (ds ++ [d]))) De.nx) : GoS c A Γ (tDrop (tBM c.K "list" rAppend (tVar i) (tCons te tNil))) De := fun σ F H q => by
  obtain ⟨a, vs, e, hH, r, hn, ch⟩ := q.own h0
  refine ⟨_, e, .inl ⟨rfl, vs, .inl (.inl hH)⟩, ?_⟩
  refine h σ F H _ q fun v F2 H2 k2 r2 => ?_
  obtain ⟨a', vs', e', hH', r', hn', ch'⟩ := k2.own h'
  rw [e] at e'; cases e'
  exact ⟨a, vs', v, rfl, rfl, hH', Nat.lt_of_lt_of_le (by rw [r'.len]; exact hl) (by decide), k σ F2 _ (ch' _ _ (r'.append (.one r2)))⟩
theorem g_app (h' : Γ[i]? = some (.own ds)) (h : EvG c A Γ te d) (hl : ds.length < 100000) (k : GoN c A (Γ.set i (.own (ds ++ [d]))) De.nx) : GoS c A Γ (tDrop (tBM c.K "list" rAppend (tVar i) (tCons te tNil))) De :=
  g_appX h' (x_of h) h' hl k
/-- an own list becomes data -/
theorem Know.freeze {σ : L2.St} {F H : Hp} (k : Know c A Γ σ F H) (h : Γ[i]? = some (.own ds)) : ∃ F', Know c A (Γ.set i (.dat (.lst ds))) σ F' H := by
  obtain ⟨o, as, e, ⟨a, vs, rfl, rfl, hH, r⟩, nd, hn, tk⟩ := k.take h
  have fa : F a = none := (hn a (by simp)).1
  refine ⟨upd F a (.lst vs), tk _ _ _ rfl (Ex.new fa) (fun b u hb => ?_) (fun b hb => upd_ne fun z => hb (by simp [z])) (.lst upd_same (r.mono (Ex.new fa)))⟩
  by_cases z : b = a
  · subst z; rw [upd_same] at hb; cases hb; exact hH
  · rw [upd_ne z] at hb; exact k.gr.s _ _ hb
theorem g_freeze (h : Γ[i]? = some (.own ds)) (k : GoS c A (Γ.set i (.dat (.lst ds))) t De) : GoS c A Γ t De := fun σ F H q => by
  obtain ⟨F', q'⟩ := q.freeze h
  exact k σ F' H q'
theorem n_freeze {P : L2.St → Hp → Prop} (h : Γ[i]? = some (.own ds)) (k : GoN c A (Γ.set i (.dat (.lst ds))) P) : GoN c A Γ P := fun σ F H q => by
  obtain ⟨F', q'⟩ := q.freeze h
  exact k σ F' H q'
/-! ### targets -/
theorem wipe_get (σ : L2.St) : ∀ (vs : List Nat) (i : Nat), (wipe σ vs)[i]? = if i ∈ vs then (if i < σ.length then some none else none) else σ[i]?
  | [], i => by simp [wipe]
  | v :: vs, i => by
    show ((wipe σ vs).set v none)[i]? = _
    rw [List.getElem?_set, wipe_get σ vs i, wipe_length]
    by_cases e : v = i
    · subst e; simp
    · have e' : ¬ i = v := fun z => e z.symm
      simp [e, e']
theorem wipe_set {σ : L2.St} {x : Option V} {vs : List Nat} (h : i ∈ vs) : wipe (σ.set i x) vs = wipe σ vs := by
  apply List.ext_getElem?
  intro k
  rw [wipe_get, wipe_get, List.length_set, List.getElem?_set]
  by_cases e : k ∈ vs
  · simp [e]
  · have : i ≠ k := fun z => e (z ▸ h)
    simp [e, this]
theorem wipe_wipe {σ : L2.St} {vs : List Nat} : wipe (wipe σ vs) vs = wipe σ vs := by
  apply List.ext_getElem?
  intro k
  rw [wipe_get, wipe_get, wipe_length]
  by_cases e : k ∈ vs <;> simp [e]
def wipeG (Γ : List Sl) : List Nat → List Sl
  | [] => Γ
  | v :: vs => (wipeG Γ vs).set v .any
theorem wipeG_len : ∀ vs, (wipeG Γ vs).length = Γ.length
  | [] => rfl
  | v :: vs => by unfold wipeG; rw [List.length_set, wipeG_len vs]
theorem Know.wipe {σ : L2.St} {F H : Hp} (k : Know c A Γ σ F H) : ∀ vs, Know c A (wipeG Γ vs) (L2.wipe σ vs) F H
  | [] => k
  | v :: vs => by
    unfold wipeG L2.wipe
    have z := Know.wipe k vs
    by_cases h : v < (wipeG Γ vs).length
    · exact z.put h rfl
    · have hl := z.len
      rw [List.set_eq_of_length_le (by omega), List.set_eq_of_length_le (by omega)]
      exact z
theorem gg_name (hi : i < Γ.length) : GoG c A Γ (gName i) d (Γ.set i (.dat d)) [i] := fun σ F H v Q k r q => q _ (k.set hi r) fun vs h => wipe_set (h i (by simp))
theorem gs_nil : GoGs c A Γ gNil [] Γ [] := fun σ F H xs Q k r q => by
  cases r; exact ⟨rfl, q σ k fun _ _ => rfl⟩
theorem gs_cons {g : TG} {gs : TGs} {js ks : List Nat} (h : GoG c A Γ g d Γ' js) (hs : GoGs c A Γ' gs ds Γ'' ks) : GoGs c A Γ (gCons g gs) (d :: ds) Γ'' (js ++ ks) := fun σ F H xs Q k r q => by
  cases r with
  | cons r1 r2 => exact ⟨_, _, rfl, h σ F H _ _ k r1 fun σ1 k1 w1 => hs σ1 F H _ Q k1 r2 fun σ2 k2 w2 => q σ2 k2 fun vs hv => (w2 vs fun j hj => hv j (by simp [hj])).trans (w1 vs fun j hj => hv j (by simp [hj]))⟩
theorem gg_tup {gs : TGs} {js : List Nat} {n : Nat} (h : GoGs c A Γ gs ds Γ' js) (hn : ds.length = n) : GoG c A Γ (gTup c.K n gs) (.tup ds) Γ' js := fun σ F H v Q k r q => by
  cases r with
  | @tup a xs _ h1 h2 => exact ⟨a, xs, rfl, .inl (.inl (k.gr.s _ _ h1)), by rw [h2.len]; exact hn, h σ F H xs Q k h2 q⟩
theorem gg_lst {gs : TGs} {js : List Nat} {n : Nat} (h : GoGs c A Γ gs ds Γ' js) (hn : ds.length = n) : GoG c A Γ (gUnl c.K n gs) (.lst ds) Γ' js := fun σ F H v Q k r q => by
  cases r with
  | @lst a xs _ h1 h2 => exact ⟨a, xs, rfl, .inl (.inl (k.gr.s _ _ h1)), by rw [h2.len]; exact hn, h σ F H xs Q k h2 q⟩
theorem g_asg {g : TG} {js : List Nat} (h : EvG c A Γ te d) (hg : GoG c A Γ g d Γ' js) (k : GoN c A Γ' De.nx) : GoS c A Γ (tAsg te g) De := fun σ F H q =>
  h σ F H _ q fun v F2 H2 gr r => hg σ F2 H2 v _ (q.grow gr) r fun σ' k' _ => k σ' F2 H2 k'
theorem g_asgR {g : TG} {js : List Nat} (h : EvR c A Γ te R) (k : ∀ d, R d → ∃ Γ', GoG c A Γ g d Γ' js ∧ GoN c A Γ' De.nx) : GoS c A Γ (tAsg te g) De := fun σ F H q =>
  h σ F H _ q fun v d F2 H2 hR gr r => by
    obtain ⟨Γ', hg, k'⟩ := k d hR
    exact hg σ F2 H2 v _ (q.grow gr) r fun σ' kk _ => k' σ' F2 H2 kk
theorem g_par {ta : TA} {d1 d2 : D} (h : EvA c A Γ ta [d1, d2]) (hi : i < Γ.length) (hj : j < Γ.length) (k : GoN c A ((Γ.set i (.dat d1)).set j (.dat d2)) De.nx) : GoS c A Γ (tPar i j ta) De := fun σ F H q =>
  h σ F H _ q fun vs F2 H2 gr r => by
    cases r with
    | cons r1 t1 =>
      cases t1 with
      | cons r2 t2 =>
        cases t2
        exact ⟨_, _, rfl, k _ F2 H2 (((q.grow gr).set hi r1).set (by rw [List.length_set]; exact hj) r2)⟩
/-! ### loops -/
theorem Know.up {A' : Hp} {σ : L2.St} {F H : Hp} (k : Know c A' Γ σ F H) (e : Ex A A') : Know c A Γ σ F H := k.anchor (e.trans k.an)
/-- for target in a list of data -/
theorem g_for {tl : TE} {g : TG} {js : List Nat} (h : EvG c A Γ tl (.lst ds)) (G G' : Nat → List Sl) (h0 : Wk Γ (G 0)) (hg : ∀ i d A', ds[i]? = some d → GoG c A' (G i) g d (G' i) js)
    (hs : ∀ i d A' De', ds[i]? = some d → De'.rt = De.rt → GoN c A' (G (i + 1)) De'.nx → GoN c A' (G (i + 1)) De'.ct → (∀ Γ', GoN c A Γ' De.nx → GoN c A' Γ' De'.bk) → GoS c A' (G' i) t De')
    (hd : GoN c A (G ds.length) De.nx) : GoS c A Γ (tFor (iList c.K tl) g t) De := fun σ F H q =>
  h σ F H _ q fun v F1 H1 gr r => by
    cases r with
    | @lst a vs _ h1 h2 =>
      refine ⟨a, rfl, ⟨vs, .inl (.inl (gr.s _ _ h1))⟩, ?_⟩
      have up : Ex A F1 := q.an.trans gr.f
      refine for_list (K := c.K) (a := a) (xs := vs) (fun i σ' H' => ∃ F', Know c F1 (G i) σ' F' H') ⟨F1, ((q.grow gr).wk h0).anchor (Ex.refl _)⟩ (fun i σ' H' _ ⟨F', k'⟩ => .inl (.inl (k'.gr.s _ _ (k'.an _ _ h1)))) ?_ ?_
      · rintro i x σ' H' hx ⟨F', k'⟩
        obtain ⟨d, hd', rd⟩ := h2.getV hx
        refine hg i d F1 hd' σ' F' H' x _ k' (rd.mono k'.an) fun σ2 k2 _ => ?_
        exact hs i d F1 { De with nx := fun σ' H' => ∃ F', Know c F1 (G (i + 1)) σ' F' H', ct := fun σ' H' => ∃ F', Know c F1 (G (i + 1)) σ' F' H', bk := De.nx } hd' rfl (fun σ3 F3 H3 k3 => ⟨F3, k3⟩) (fun σ3 F3 H3 k3 => ⟨F3, k3⟩) (fun Γ' hn σ3 F3 H3 k3 => hn σ3 F3 H3 (k3.up up)) σ2 F' H' k2
      · rintro σ' H' ⟨F', k'⟩
        rw [h2.len] at k'
        exact hd σ' F' H' (k'.up up)
/-- .. in a tuple -/
theorem g_forT {tl : TE} {g : TG} {js : List Nat} (h : EvG c A Γ tl (.tup ds)) (G G' : Nat → List Sl) (h0 : Wk Γ (G 0)) (hg : ∀ i d A', ds[i]? = some d → GoG c A' (G i) g d (G' i) js)
    (hs : ∀ i d A' De', ds[i]? = some d → De'.rt = De.rt → GoN c A' (G (i + 1)) De'.nx → GoN c A' (G (i + 1)) De'.ct → (∀ Γ', GoN c A Γ' De.nx → GoN c A' Γ' De'.bk) → GoS c A' (G' i) t De')
    (hd : GoN c A (G ds.length) De.nx) : GoS c A Γ (tFor (iTup c.K tl) g t) De := fun σ F H q =>
  h σ F H _ q fun v F1 H1 gr r => by
    cases r with
    | @tup a vs _ h1 h2 =>
      refine ⟨a, rfl, ⟨vs, .inl (.inl (gr.s _ _ h1))⟩, ?_⟩
      have up : Ex A F1 := q.an.trans gr.f
      refine for_tup (K := c.K) (a := a) (xs := vs) (fun i σ' H' => ∃ F', Know c F1 (G i) σ' F' H') ⟨F1, ((q.grow gr).wk h0).anchor (Ex.refl _)⟩ (fun i σ' H' _ ⟨F', k'⟩ => .inl (.inl (k'.gr.s _ _ (k'.an _ _ h1)))) ?_ ?_
      · rintro i x σ' H' hx ⟨F', k'⟩
        obtain ⟨d, hd', rd⟩ := h2.getV hx
        refine hg i d F1 hd' σ' F' H' x _ k' (rd.mono k'.an) fun σ2 k2 _ => ?_
        exact hs i d F1 { De with nx := fun σ' H' => ∃ F', Know c F1 (G (i + 1)) σ' F' H', ct := fun σ' H' => ∃ F', Know c F1 (G (i + 1)) σ' F' H', bk := De.nx } hd' rfl (fun σ3 F3 H3 k3 => ⟨F3, k3⟩) (fun σ3 F3 H3 k3 => ⟨F3, k3⟩) (fun Γ' hn σ3 F3 H3 k3 => hn σ3 F3 H3 (k3.up up)) σ2 F' H' k2
      · rintro σ' H' ⟨F', k'⟩
        rw [h2.len] at k'
        exact hd σ' F' H' (k'.up up)
/-- for i in range(n) -/
theorem g_forR {tn : TE} {n : Nat} (h : EvG c A Γ tn (.int (n : Int))) (hn : n ≤ 1000000) (G : Nat → List Sl) (h0 : Wk Γ (G 0)) (hj : ∀ i, j < (G i).length)
    (hs : ∀ i A' De', i < n → De'.rt = De.rt → GoN c A' (G (i + 1)) De'.nx → GoN c A' (G (i + 1)) De'.ct → (∀ Γ', GoN c A Γ' De.nx → GoN c A' Γ' De'.bk) → GoS c A' ((G i).set j (.dat (.int (i : Int)))) t De')
    (hd : GoN c A (G n) De.nx) : GoS c A Γ (tFor (iRng1 (tCons tn tNil)) (gName j) t) De := fun σ F H q =>
  h σ F H _ q fun v F1 H1 gr r => by
    cases r
    have up : Ex A F1 := q.an.trans gr.f
    refine ⟨(n : Int), rfl, by omega, by omega, for_range (lo := 0) (n := ((n : Nat) : Int).toNat) (fun i σ' H' => ∃ F', Know c F1 (G i) σ' F' H') ⟨F1, ((q.grow gr).wk h0).anchor (Ex.refl _)⟩ ?_ ?_⟩
    · rintro i σ' H' hi ⟨F', k'⟩
      have hi' : i < n := by omega
      have e : (0 : Int) + (i : Int) = (i : Int) := Int.zero_add _
      show t _ (σ'.set j (some (.int (0 + (i : Int))))) H'
      rw [e]
      exact hs i F1 { De with nx := fun σ' H' => ∃ F', Know c F1 (G (i + 1)) σ' F' H', ct := fun σ' H' => ∃ F', Know c F1 (G (i + 1)) σ' F' H', bk := De.nx } hi' rfl (fun σ3 F3 H3 k3 => ⟨F3, k3⟩) (fun σ3 F3 H3 k3 => ⟨F3, k3⟩) (fun Γ' hn σ3 F3 H3 k3 => hn σ3 F3 H3 (k3.up up)) _ F' H' (k'.set (hj i) (.int _))
    · rintro σ' H' ⟨F', k'⟩
      rw [Int.toNat_natCast] at k'
      exact hd σ' F' H' (k'.up up)
/-- for i in range(a, b) -/
theorem g_forR2 {tm tn : TE} {m n : Nat} (h1 : EvG c A Γ tm (.int (m : Int))) (h : EvG c A Γ tn (.int (n : Int))) (hm : m ≤ 1000000) (hn : n ≤ 1000000) (G : Nat → List Sl) (h0 : Wk Γ (G 0)) (hj : ∀ i, j < (G i).length)
    (hs : ∀ i A' De', m + i < n → De'.rt = De.rt → GoN c A' (G (i + 1)) De'.nx → GoN c A' (G (i + 1)) De'.ct → (∀ Γ', GoN c A Γ' De.nx → GoN c A' Γ' De'.bk) → GoS c A' ((G i).set j (.dat (.int ((m + i : Nat) : Int)))) t De')
    (hd : GoN c A (G (n - m)) De.nx) : GoS c A Γ (tFor (iRng2 (tCons tm (tCons tn tNil))) (gName j) t) De := fun σ F H q =>
  h1 σ F H _ q fun v0 F0 H0 gr0 r0 => h σ F0 H0 _ (q.grow gr0) fun v F1 H1 gr1 r => by
    cases r; cases r0
    have gr := gr0.trans gr1
    have up : Ex A F1 := q.an.trans gr.f
    have e0 : ((n : Int) - (m : Int)).toNat = n - m := by omega
    refine ⟨(m : Int), (n : Int), rfl, ⟨by omega, by omega, by omega, by omega⟩, for_range (lo := (m : Int)) (n := ((n : Int) - (m : Int)).toNat) (fun i σ' H' => ∃ F', Know c F1 (G i) σ' F' H') ⟨F1, ((q.grow gr).wk h0).anchor (Ex.refl _)⟩ ?_ ?_⟩
    · rintro i σ' H' hi ⟨F', k'⟩
      have hi' : m + i < n := by omega
      have e : (m : Int) + (i : Int) = ((m + i : Nat) : Int) := by omega
      show t _ (σ'.set j (some (.int ((m : Int) + (i : Int))))) H'
      rw [e]
      exact hs i F1 { De with nx := fun σ' H' => ∃ F', Know c F1 (G (i + 1)) σ' F' H', ct := fun σ' H' => ∃ F', Know c F1 (G (i + 1)) σ' F' H', bk := De.nx } hi' rfl (fun σ3 F3 H3 k3 => ⟨F3, k3⟩) (fun σ3 F3 H3 k3 => ⟨F3, k3⟩) (fun Γ' hn σ3 F3 H3 k3 => hn σ3 F3 H3 (k3.up up)) _ F' H' (k'.set (hj i) (.int _))
    · rintro σ' H' ⟨F', k'⟩
      rw [e0] at k'
      exact hd σ' F' H' (k'.up up)
/-- while, over states of one's own: G what the slots hold, μ falls -/
theorem g_while {S : Type} (G : S → List Sl) (In : S → Prop) (μ : S → Nat) (s0 : S) (h0 : Wk Γ (G s0)) (hi : In s0)
    (hs : ∀ s A', In s → ∃ b, EvT c A' (G s) tt b ∧ (b = true → ∀ De', De'.rt = De.rt → (∀ s', In s' → μ s' < μ s → GoN c A' (G s') De'.nx) → (∀ s', In s' → μ s' < μ s → GoN c A' (G s') De'.ct) → (∀ Γ', GoN c A Γ' De.nx → GoN c A' Γ' De'.bk) → GoS c A' (G s) t De') ∧ (b = false → GoN c A (G s) De.nx)) :
    GoS c A Γ (tWhile tt t) De := fun σ F H q => by
  refine ⟨fun m σ' H' => ∃ s F', In s ∧ m = μ s ∧ Know c F (G s) σ' F' H', ⟨μ s0, s0, F, hi, rfl, (q.wk h0).anchor (Ex.refl _)⟩, ?_⟩
  rintro m σ' H' ⟨s, F', hin, rfl, k'⟩
  obtain ⟨b, hb, h1, h2⟩ := hs s F hin
  refine hb σ' F' H' _ k' fun F2 H2 g2 => ?_
  cases b with
  | true =>
    rw [if_pos rfl]
    refine ⟨fun σ3 H3 => ∃ s' F3, In s' ∧ μ s' < μ s ∧ Know c F (G s') σ3 F3 H3, fun σ3 H3 ⟨s', F3, a1, a2, a3⟩ => ⟨μ s', a2, s', F3, a1, rfl, a3⟩, ?_⟩
    exact h1 rfl { De with nx := fun σ3 H3 => ∃ s' F3, In s' ∧ μ s' < μ s ∧ Know c F (G s') σ3 F3 H3, ct := fun σ3 H3 => ∃ s' F3, In s' ∧ μ s' < μ s ∧ Know c F (G s') σ3 F3 H3, bk := De.nx } rfl (fun s' a1 a2 σ3 F3 H3 k3 => ⟨s', F3, a1, a2, k3⟩) (fun s' a1 a2 σ3 F3 H3 k3 => ⟨s', F3, a1, a2, k3⟩) (fun Γ' hn σ3 F3 H3 k3 => hn σ3 F3 H3 (k3.up q.an)) σ' F2 H2 (k'.grow g2)
  | false =>
    rw [if_neg Bool.false_ne_true]
    exact h2 rfl σ' F2 H2 ((k'.grow g2).up q.an)
end
end DL
end
section
set_option Elab.async false
set_option linter.all false
set_option maxRecDepth 100000
set_option maxHeartbeats 4000000
/-! DL5: comprehensions; lists of own lists; a dict of pairs; an instance in the making; a def's promise from its body's reading. -/
namespace DL
open PySem PySem.Spec L2
section
variable {c : Ct} {A : Hp} {Γ Γ' Γ'' : List Sl} {te ta tb : TE} {tt tu : TT} {d e : D} {ds es : List D} {b : Bool} {De : Ends} {t u : TS} {R : D → Prop} {i j : Nat}
/-! ### comprehensions -/
/-- behind i turns: the new list at Dl holds xs -/
def CP (c : Ct) (F1 H1 : Hp) (Dl : Addr) (xs : List D) (H' : Hp) : Prop := ∃ F' acc, Gr F1 H1 F' H' ∧ F' Dl = none ∧ H' Dl = some (.lst acc) ∧ RpA c.K F' acc xs
theorem cp_turn {F1 H1 H' : Hp} {Dl : Addr} {xs : List D} {σ : L2.St} {vs js : List Nat} {g : TG} {x : V} {Pv : Hp → Prop} {y : D} (k : Know c A Γ σ F1 H1) (hD : H1 Dl = none) (p : CP c F1 H1 Dl xs H') (hl : xs.length < 100000)
    (rx : Rp c.K F1 x d) (hg : ∀ A', GoG c A' (wipeG Γ vs) g d Γ' js) (hj : ∀ j ∈ js, j ∈ vs) (ht : ∀ A', EvT c A' Γ' tt b) (he : b = true → ∀ A', EvG c A' Γ' te y) (hP : ∀ H2, CP c F1 H1 Dl (if b = true then xs ++ [y] else xs) H2 → Pv H2) :
    g x (L2.wipe σ vs) H' fun σ2 H2 => L2.wipe σ2 vs = L2.wipe σ vs ∧ tt σ2 H2 fun b H3 =>
      if b = true then te σ2 H3 fun y H4 => ∃ acc, H4 Dl = some (.lst acc) ∧ acc.length < sizeLine ∧ Pv (upd H4 Dl (.lst (acc ++ [y]))) else Pv H3 := by
  obtain ⟨F', acc, gr, f1, h1, r1⟩ := p
  have k0 := (k.wipe vs).grow gr
  refine hg A _ _ _ _ _ k0 (rx.mono gr.f) fun σ' k1 w => ⟨(w vs hj).trans wipe_wipe, ?_⟩
  refine ht A _ _ _ _ k1 fun F2 H2 g2 => ?_
  cases b with
  | true =>
    rw [if_pos rfl]
    refine he rfl A _ _ _ _ (k1.grow g2) fun v F3 H3 g3 r3 => ?_
    have g23 := g2.trans g3
    refine ⟨acc, g23.h _ _ h1, Nat.lt_of_lt_of_le (by rw [r1.len]; exact hl) (by decide), hP _ ⟨F3, acc ++ [v], ((gr.trans g23).mut hD (g23.n _ _ h1 (fun _ z => by cases z) f1)), g23.n _ _ h1 (fun _ z => by cases z) f1, upd_same, ?_⟩⟩
    rw [if_pos rfl]
    exact (r1.mono g23.f).append (.one r3)
  | false =>
    rw [if_neg Bool.false_ne_true]
    refine hP _ ⟨F2, acc, gr.trans g2, g2.n _ _ h1 (fun _ z => by cases z) f1, g2.h _ _ h1, ?_⟩
    rw [if_neg Bool.false_ne_true]
    exact r1.mono g2.f
/-- [e for target in a list of data if t]: xs the items as one likes them -/
theorem en_lc {α : Type} {tl : TE} {g : TG} {js vs : List Nat} (xs : List α) (enc : α → D) (p : α → Bool) (out : α → D) (Gx : α → List Sl) (h : EvG c A Γ tl (.lst (xs.map enc))) (hj : ∀ j ∈ js, j ∈ vs) (hl : xs.length ≤ 50000)
    (hg : ∀ x A', x ∈ xs → GoG c A' (wipeG Γ vs) g (enc x) (Gx x) js) (ht : ∀ x A', x ∈ xs → EvT c A' (Gx x) tt (p x)) (he : ∀ x A', x ∈ xs → p x = true → EvG c A' (Gx x) te (out x)) :
    EvN c A Γ (tLc (iList c.K tl) g tt te vs) ((xs.filter p).map out) := fun σ F H Q k q =>
  h σ F H _ k fun v F1 H1 g1 r1 => by
    cases r1 with
    | @lst a us _ h1 h2 =>
      have k1 := k.grow g1
      refine ⟨a, rfl, ⟨us, .inl (.inl (g1.s _ _ h1))⟩, fun Dl hD => ?_⟩
      have hul : us.length = xs.length := by rw [h2.len, List.length_map]
      refine lc_list (K := c.K) (a := a) (xs := us) (fun i H' => CP c F1 H1 Dl (((xs.take i).filter p).map out) H') ⟨F1, [], Gr.out g1.s hD, g1.s.back hD, upd_same, .nil⟩ (fun i H' _ ⟨F', acc, gr, _⟩ => .inl (.inl (gr.s _ _ (gr.f _ _ h1)))) ?_ ?_
      · intro i x H' hx cp
        obtain ⟨d, hd', rd⟩ := h2.getV hx
        rw [List.getElem?_map] at hd'
        obtain ⟨z, hz, rfl⟩ := Option.map_eq_some_iff.mp hd'
        have hm : z ∈ xs := List.mem_of_getElem? hz
        have hlen : (((xs.take i).filter p).map out).length < 100000 := by
          rw [List.length_map]
          have h1 := List.length_filter_le p (xs.take i)
          have h2 : (xs.take i).length ≤ xs.length := by rw [List.length_take]; omega
          omega
        refine cp_turn (Γ' := Gx z) (b := p z) (y := out z) k1 hD cp hlen rd (fun A' => hg z A' hm) hj (fun A' => ht z A' hm) (fun hp A' => he z A' hm hp) fun H2 q2 => ?_
        have e : ((xs.take (i + 1)).filter p).map out = if p z = true then ((xs.take i).filter p).map out ++ [out z] else ((xs.take i).filter p).map out := by
          rw [List.take_add_one, hz, List.filter_append, List.map_append]
          show _ ++ List.map out (List.filter p [z]) = _
          by_cases hp : p z = true
          · rw [if_pos hp, List.filter_cons, if_pos hp]; rfl
          · rw [if_neg hp, List.filter_cons, if_neg hp]
            show _ ++ [] = _
            rw [List.append_nil]
        rw [e]; exact q2
      · rintro H' ⟨F', acc, gr, f1, h3, r3⟩
        rw [hul, List.take_length] at r3
        exact q Dl acc F' H' (g1.trans gr) (g1.h.back hD) f1 h3 r3
/-- .. over a tuple -/
theorem en_lcT {α : Type} {tl : TE} {g : TG} {js vs : List Nat} (xs : List α) (enc : α → D) (p : α → Bool) (out : α → D) (Gx : α → List Sl) (h : EvG c A Γ tl (.tup (xs.map enc))) (hj : ∀ j ∈ js, j ∈ vs) (hl : xs.length ≤ 50000)
    (hg : ∀ x A', x ∈ xs → GoG c A' (wipeG Γ vs) g (enc x) (Gx x) js) (ht : ∀ x A', x ∈ xs → EvT c A' (Gx x) tt (p x)) (he : ∀ x A', x ∈ xs → p x = true → EvG c A' (Gx x) te (out x)) :
    EvN c A Γ (tLc (iTup c.K tl) g tt te vs) ((xs.filter p).map out) := fun σ F H Q k q =>
  h σ F H _ k fun v F1 H1 g1 r1 => by
    cases r1 with
    | @tup a us _ h1 h2 =>
      have k1 := k.grow g1
      refine ⟨a, rfl, ⟨us, .inl (.inl (g1.s _ _ h1))⟩, fun Dl hD => ?_⟩
      have hul : us.length = xs.length := by rw [h2.len, List.length_map]
      refine lc_tup (K := c.K) (a := a) (xs := us) (fun i H' => CP c F1 H1 Dl (((xs.take i).filter p).map out) H') ⟨F1, [], Gr.out g1.s hD, g1.s.back hD, upd_same, .nil⟩ (fun i H' _ ⟨F', acc, gr, _⟩ => .inl (.inl (gr.s _ _ (gr.f _ _ h1)))) ?_ ?_
      · intro i x H' hx cp
        obtain ⟨d, hd', rd⟩ := h2.getV hx
        rw [List.getElem?_map] at hd'
        obtain ⟨z, hz, rfl⟩ := Option.map_eq_some_iff.mp hd'
        have hm : z ∈ xs := List.mem_of_getElem? hz
        have hlen : (((xs.take i).filter p).map out).length < 100000 := by
          rw [List.length_map]
          have h1 := List.length_filter_le p (xs.take i)
          have h2 : (xs.take i).length ≤ xs.length := by rw [List.length_take]; omega
          omega
        refine cp_turn (Γ' := Gx z) (b := p z) (y := out z) k1 hD cp hlen rd (fun A' => hg z A' hm) hj (fun A' => ht z A' hm) (fun hp A' => he z A' hm hp) fun H2 q2 => ?_
        have e : ((xs.take (i + 1)).filter p).map out = if p z = true then ((xs.take i).filter p).map out ++ [out z] else ((xs.take i).filter p).map out := by
          rw [List.take_add_one, hz, List.filter_append, List.map_append]
          show _ ++ List.map out (List.filter p [z]) = _
          by_cases hp : p z = true
          · rw [if_pos hp, List.filter_cons, if_pos hp]; rfl
          · rw [if_neg hp, List.filter_cons, if_neg hp]
            show _ ++ [] = _
            rw [List.append_nil]
        rw [e]; exact q2
      · rintro H' ⟨F', acc, gr, f1, h3, r3⟩
        rw [hul, List.take_length] at r3
        exact q Dl acc F' H' (g1.trans gr) (g1.h.back hD) f1 h3 r3
/-- [e for v in range(n)] -/
theorem en_lcR {tn : TE} {g : TG} {js vs : List Nat} {n : Nat} (out : Nat → D) (Gx : Nat → List Sl) (h : EvG c A Γ tn (.int (n : Int))) (hn : n ≤ 50000) (hj : ∀ j ∈ js, j ∈ vs)
    (hg : ∀ x A', x < n → GoG c A' (wipeG Γ vs) g (.int (x : Int)) (Gx x) js) (he : ∀ x A', x < n → EvG c A' (Gx x) te (out x)) :
    EvN c A Γ (tLc (iRng1 (tCons tn tNil)) g tYes te vs) ((List.range n).map out) := fun σ F H Q k q =>
  h σ F H _ k fun v F1 H1 g1 r1 => by
    cases r1
    have k1 := k.grow g1
    refine ⟨(n : Int), rfl, by omega, by omega, fun Dl hD => ?_⟩
    refine lc_range (lo := 0) (n := ((n : Nat) : Int).toNat) (fun i H' => CP c F1 H1 Dl ((List.range i).map out) H') ⟨F1, [], Gr.out g1.s hD, g1.s.back hD, upd_same, .nil⟩ ?_ ?_
    · intro i H' hi cp
      have hi' : i < n := by omega
      have hlen : ((List.range i).map out).length < 100000 := by rw [List.length_map, List.length_range]; omega
      have e0 : (0 : Int) + (i : Int) = (i : Int) := Int.zero_add _
      rw [e0]
      refine cp_turn (Γ' := Gx i) (b := true) (y := out i) k1 hD cp hlen (.int _) (fun A' => hg i A' hi') hj (fun A' σ F H Q k q => q F H (Gr.refl k.gr.s)) (fun hp A' => he i A' hi') fun H2 q2 => ?_
      rw [List.range_succ, List.map_append]
      rw [if_pos rfl] at q2
      exact q2
    · rintro H' ⟨F', acc, gr, f1, h3, r3⟩
      rw [Int.toNat_natCast] at r3
      exact q Dl acc F' H' (g1.trans gr) (g1.h.back hD) f1 h3 r3
/-- [e for v in range(m, n)] -/
theorem en_lcR2 {tm tn : TE} {g : TG} {js vs : List Nat} {m n : Nat} (out : Nat → D) (Gx : Nat → List Sl) (hm : EvG c A Γ tm (.int (m : Int))) (h : EvG c A Γ tn (.int (n : Int))) (hm1 : m ≤ 50000) (hn : n ≤ 50000) (hj : ∀ j ∈ js, j ∈ vs)
    (hg : ∀ x A', m + x < n → GoG c A' (wipeG Γ vs) g (.int ((m + x : Nat) : Int)) (Gx x) js) (he : ∀ x A', m + x < n → EvG c A' (Gx x) te (out x)) :
    EvN c A Γ (tLc (iRng2 (tCons tm (tCons tn tNil))) g tYes te vs) ((List.range (n - m)).map out) := fun σ F H Q k q =>
  hm σ F H _ k fun v0 F0 H0 g0 r0 => h σ F0 H0 _ (k.grow g0) fun v F1 H1 g1 r1 => by
    cases r1; cases r0
    have k1 := (k.grow g0).grow g1
    have eN : ((n : Int) - (m : Int)).toNat = n - m := by omega
    refine ⟨(m : Int), (n : Int), rfl, ⟨by omega, by omega, by omega, by omega⟩, fun Dl hD => ?_⟩
    refine lc_range (lo := (m : Int)) (n := ((n : Int) - (m : Int)).toNat) (fun i H' => CP c F1 H1 Dl ((List.range i).map out) H') ⟨F1, [], Gr.out g1.s hD, g1.s.back hD, upd_same, .nil⟩ ?_ ?_
    · intro i H' hi cp
      have hi' : m + i < n := by omega
      have hlen : ((List.range i).map out).length < 100000 := by rw [List.length_map, List.length_range]; omega
      have e0 : (m : Int) + (i : Int) = ((m + i : Nat) : Int) := by omega
      rw [e0]
      refine cp_turn (Γ' := Gx i) (b := true) (y := out i) k1 hD cp hlen (.int _) (fun A' => hg i A' hi') hj (fun A' σ F H Q k q => q F H (Gr.refl k.gr.s)) (fun hp A' => he i A' hi') fun H2 q2 => ?_
      rw [List.range_succ, List.map_append]
      rw [if_pos rfl] at q2
      exact q2
    · rintro H' ⟨F', acc, gr, f1, h3, r3⟩
      rw [eN] at r3
      exact q Dl acc F' H' ((g0.trans g1).trans gr) ((g0.trans g1).h.back hD) f1 h3 r3
theorem et_yes : EvT c A Γ tYes true := fun σ F H Q k q => q F H (Gr.refl k.gr.s)
/-! ### lists of own lists -/
theorem paired_empty {K : PySem.W.Frag} {F H : Hp} : ∀ {bs : List Addr}, (∀ b ∈ bs, H b = some (.lst [])) → Paired (fun b ds => ∃ vs, H b = some (.lst vs) ∧ RpA K F vs ds) bs (List.replicate bs.length ([] : List D))
  | [], _ => .nil
  | b :: bs, h => .cons ⟨[], h b (by simp), .nil⟩ (paired_empty fun x hx => h x (by simp [hx]))
/-- x = [[] for v in range(n)] -/
theorem g_set2 {tn : TE} {n : Nat} {w : Nat} (h : EvG c A Γ tn (.int (n : Int))) (hn : n ≤ 50000) (hi : i < Γ.length) (k : GoN c A (Γ.set i (.own2 (List.replicate n []))) De.nx) :
    GoS c A Γ (tAsg (tLc (iRng1 (tCons tn tNil)) (gName w) tYes (tLst tNil) [w]) (gName i)) De := fun σ F H q =>
  h σ F H _ q fun v F1 H1 g1 r1 => by
    cases r1
    have k1 := q.grow g1
    refine ⟨(n : Int), rfl, by omega, by omega, fun Dl hD => ?_⟩
    have fD := g1.s.back hD
    refine lc_range (lo := 0) (n := ((n : Nat) : Int).toNat) (fun i H' => ∃ bs : List Addr, bs.length = i ∧ Gr F1 H1 F1 H' ∧ (Dl :: bs).Nodup ∧ (∀ b ∈ bs, H1 b = none ∧ H' b = some (.lst [])) ∧ H' Dl = some (.lst (bs.map V.ref)))
      ⟨[], rfl, Gr.out g1.s hD, by simp, (fun b hb => by cases hb), upd_same⟩ ?_ ?_
    · rintro i H' hi' ⟨bs, hl, gr, nd, hb, hDl⟩
      refine ⟨?_, ?_⟩
      · show L2.wipe ((L2.wipe σ [w]).set w _) [w] = L2.wipe σ [w]
        rw [wipe_set (by simp), wipe_wipe]
      · refine ⟨Nat.zero_le _, fun p hp => ⟨bs.map V.ref, ?_, Nat.lt_of_lt_of_le (show (bs.map V.ref).length < 100000 by rw [List.length_map]; omega) (by decide), bs ++ [p], by simp [hl], ?_, ?_, ?_, ?_⟩⟩
        · rw [upd_ne (fun z => by rw [z, hp] at hDl; cases hDl)]; exact hDl
        · exact ((gr.trans (Gr.out gr.s hp)).mut hD fD)
        · have np : p ∉ bs := fun z => by rw [(hb p z).2] at hp; cases hp
          have nD : Dl ≠ p := fun z => by rw [z, hp] at hDl; cases hDl
          rw [List.nodup_cons] at nd ⊢
          refine ⟨fun z => ?_, ?_⟩
          · rcases List.mem_append.mp z with z | z
            · exact nd.1 z
            · simp at z; exact nD z
          · rw [List.nodup_append]
            exact ⟨nd.2, by simp, fun a ha b hb' e => by simp at hb'; subst hb' e; exact np ha⟩
        · intro b hb'
          rcases List.mem_append.mp hb' with z | z
          · have n1 : b ≠ Dl := fun y => by subst y; rw [List.nodup_cons] at nd; exact nd.1 z
            have n2 : b ≠ p := fun y => by subst y; rw [(hb b z).2] at hp; cases hp
            exact ⟨(hb b z).1, by rw [upd_ne n1, upd_ne n2]; exact (hb b z).2⟩
          · simp at z; subst z
            have n1 : b ≠ Dl := fun y => by rw [y, hDl] at hp; cases hp
            exact ⟨gr.h.back hp, by rw [upd_ne n1, upd_same]⟩
        · rw [upd_same, List.map_append]; rfl
    · rintro H' ⟨bs, hl, gr, nd, hb, hDl⟩
      rw [Int.toNat_natCast] at hl
      refine k _ F1 H' (k1.putNew gr (as2 := Dl :: bs) hi ⟨Dl, bs, rfl, rfl, hDl, ?_⟩ nd fun a ha => ?_)
      · rw [← hl]; exact paired_empty fun b hb' => (hb b hb').2
      · rcases List.mem_cons.mp ha with rfl | ha
        · exact ⟨hD, fD⟩
        · exact ⟨(hb a ha).1, g1.s.back (hb a ha).1⟩
theorem Paired.at {α β : Type} {R : α → β → Prop} : ∀ {xs : List α} {ys : List β} {i : Nat} {y : β}, Paired R xs ys → ys[i]? = some y → ∃ x, xs[i]? = some x ∧ R x y
  | _, _, _, _, .nil, h => by simp at h
  | _, _, 0, y, .cons (a := x) r _, h => by simp at h; subst h; exact ⟨x, rfl, r⟩
  | _, _, i + 1, y, .cons _ t, h => by
    obtain ⟨x, h1, h2⟩ := Paired.at (i := i) t (by simpa using h)
    exact ⟨x, by simpa using h1, h2⟩
theorem Paired.setAt {K : PySem.W.Frag} {F H : Hp} {vs' : List V} {ds' : List D} {b0 : Addr} (r' : RpA K F vs' ds') : ∀ {bs : List Addr} {dss : List (List D)} {i : Nat}, Paired (fun b ds => ∃ vs, H b = some (.lst vs) ∧ RpA K F vs ds) bs dss → bs.Nodup → bs[i]? = some b0 →
    Paired (fun b ds => ∃ vs, (upd H b0 (.lst vs')) b = some (.lst vs) ∧ RpA K F vs ds) bs (dss.set i ds')
  | _, _, _, .nil, _, h => by simp at h
  | x :: bs, _, 0, .cons r t, nd, h => by
    simp at h; subst h
    refine .cons ⟨vs', upd_same, r'⟩ (Paired.mpm (fun a z ha ⟨vs, h1, h2⟩ => ⟨vs, ?_, h2⟩) t)
    have : a ≠ x := fun q => by subst q; rw [List.nodup_cons] at nd; exact nd.1 ha
    rw [upd_ne this]; exact h1
  | x :: bs, _, i + 1, .cons r t, nd, h => by
    rw [List.nodup_cons] at nd
    have h' : bs[i]? = some b0 := by simpa using h
    have e : x ≠ b0 := fun q => nd.1 (q ▸ List.mem_of_getElem? h')
    obtain ⟨vs, h1, h2⟩ := r
    exact .cons ⟨vs, by rw [upd_ne e]; exact h1, h2⟩ (Paired.setAt r' t nd.2 h')
/-- x[u].append(v) -/
theorem g_app2 {tu tv : TE} {dss : List (List D)} {u : Nat} (h2 : Γ[i]? = some (.own2 dss)) (hu : EvG c A Γ tu (.int (u : Int))) (hd : dss[u]? = some ds) (hv : EvG c A Γ tv d) (hl : ds.length < 100000) (k : GoN c A (Γ.set i (.own2 (dss.set u (ds ++ [d])))) De.nx) :
    GoS c A Γ (tDrop (tBM c.K "list" rAppend (tOp (rIxA c.K) (tVar i) tu) (tCons tv tNil))) De := fun σ F H q => by
  obtain ⟨o, as, e, ⟨a, bs, rfl, rfl, hH, pr⟩, nd, hn, _⟩ := q.change (g' := .any) (H' := H) h2
  refine ⟨_, e, hu σ F H _ q fun v1 F1 H1 g1 r1 => ?_⟩
  cases r1
  obtain ⟨b, hb, vs, hbv, rv⟩ := Paired.at pr hd
  have hbr : (bs.map V.ref)[u]? = some (.ref b) := by rw [List.getElem?_map, hb]; rfl
  refine .inl ⟨a, bs.map V.ref, (u : Int), .ref b, rfl, rfl, .inl (.inl (g1.h _ _ hH)), atI_nat hbr, ?_⟩
  refine ⟨.inl ⟨rfl, vs, .inl (.inl (g1.h _ _ hbv))⟩, ?_⟩
  refine hv σ F1 H1 _ (q.grow g1) fun v F2 H2 g2 r2 => ?_
  have g12 := g1.trans g2
  refine ⟨b, vs, v, rfl, rfl, g12.h _ _ hbv, Nat.lt_of_lt_of_le (by rw [rv.len]; exact hl) (by decide), ?_⟩
  obtain ⟨o', as', e', ⟨a', bs', q1, q2, q3, pr'⟩, nd', hn', ch⟩ := (q.grow g12).change (g' := .own2 (dss.set u (ds ++ [d]))) (H' := upd H2 b (.lst (vs ++ [v]))) h2
  rw [e] at e'; cases e'; cases q2
  rw [g12.h _ _ hH] at q3
  have eb : bs' = bs := by
    have := HO.lst.inj (Option.some.inj q3)
    exact (List.map_inj_right (fun x y h => V.ref.inj h)).mp this.symm
  subst eb q1
  have bm : b ∈ bs' := List.mem_of_getElem? hb
  have na : a ≠ b := fun z => by subst z; rw [List.nodup_cons] at nd'; exact nd'.1 bm
  refine k σ F2 _ (ch (fun x hx => upd_ne fun z => hx (by rw [z]; simp [bm])) ⟨a, bs', rfl, rfl, by rw [upd_ne na]; exact g12.h _ _ hH, ?_⟩)
  exact Paired.setAt ((rv.mono g12.f).append (.one r2)) pr' (List.nodup_cons.mp nd').2 hb
/-- a list of own lists becomes data -/
theorem Know.freeze2 {σ : L2.St} {F H : Hp} {dss : List (List D)} (k : Know c A Γ σ F H) (h : Γ[i]? = some (.own2 dss)) : ∃ F', Know c A (Γ.set i (.dat (.lst (dss.map D.lst)))) σ F' H := by
  obtain ⟨o, as, e, ⟨a, bs, rfl, rfl, hH, pr⟩, nd, hn, tk⟩ := k.take h
  have eF : Ex F (takeAll H F (a :: bs)) := fun b u hb => by
    unfold takeAll
    by_cases z : b ∈ a :: bs
    · rw [(hn b z).1] at hb; cases hb
    · rw [if_neg z]; exact hb
  refine ⟨takeAll H F (a :: bs), tk _ _ _ rfl eF (fun b u hb => ?_) (fun b hb => ?_) (.lst (xs := bs.map V.ref) (by unfold takeAll; rw [if_pos (by simp)]; exact hH) ?_)⟩
  · unfold takeAll at hb
    by_cases z : b ∈ a :: bs
    · rw [if_pos z] at hb; exact hb
    · rw [if_neg z] at hb; exact k.gr.s _ _ hb
  · unfold takeAll; rw [if_neg hb]
  · have sub : ∀ b ∈ bs, b ∈ a :: bs := fun b hb => by simp [hb]
    clear hH nd hn tk e
    have key : ∀ {bs' : List Addr} {dss' : List (List D)}, (∀ b ∈ bs', b ∈ a :: bs) → Paired (fun b ds => ∃ vs, H b = some (.lst vs) ∧ RpA c.K F vs ds) bs' dss' → RpA c.K (takeAll H F (a :: bs)) (bs'.map V.ref) (dss'.map D.lst) := by
      intro bs' dss' hs p
      induction p with
      | nil => exact .nil
      | @cons b ds bs' dss' r t ih =>
        obtain ⟨vs, h1, h2⟩ := r
        refine .cons (.lst (xs := vs) ?_ (h2.mono eF)) (ih fun x hx => hs x (by simp [hx]))
        unfold takeAll; rw [if_pos (hs b (by simp))]; exact h1
    exact key sub pr
theorem g_freeze2 {dss : List (List D)} (h : Γ[i]? = some (.own2 dss)) (k : GoS c A (Γ.set i (.dat (.lst (dss.map D.lst)))) t De) : GoS c A Γ t De := fun σ F H q => by
  obtain ⟨F', q'⟩ := q.freeze2 h
  exact k σ F' H q'
theorem n_freeze2 {P : L2.St → Hp → Prop} {dss : List (List D)} (h : Γ[i]? = some (.own2 dss)) (k : GoN c A (Γ.set i (.dat (.lst (dss.map D.lst)))) P) : GoN c A Γ P := fun σ F H q => by
  obtain ⟨F', q'⟩ := q.freeze2 h
  exact k σ F' H q'
/-! ### a dict of pairs -/
theorem dic_val {ps : List (Int × Int)} {p : Int × Int} : (valV (dicOf ps) [Sum.inl p.1, Sum.inl p.2]).isSome = ps.contains p := by
  induction ps with
  | nil => rfl
  | cons q ps ih =>
    rw [List.contains_cons, ← ih]
    unfold dicOf valV
    rw [List.map_cons, List.find?_cons]
    by_cases e : q = p
    · subst e; simp
    · have e1 : ¬ (([Sum.inl q.1, Sum.inl q.2] : List Key) = [Sum.inl p.1, Sum.inl p.2]) := fun z => by
        simp at z; exact e (Prod.ext z.1 z.2)
      have e2 : (p == q) = false := beq_eq_false_iff_ne.mpr fun z => e z.symm
      rw [e2]; simp [e1]
theorem et_din {p : Int × Int} {ps : List (Int × Int)} (h : EvG c A Γ te (dP p)) (hd : Γ[i]? = some (.dic ps)) : EvT c A Γ (tB (tDIn te (tVar i))) (ps.contains p) := fun σ F H Q k q =>
  h σ F H _ k fun v F1 H1 g1 r1 => by
    obtain ⟨o, as, e, ⟨a, rfl, rfl, hH⟩, _⟩ := (k.grow g1).change (g' := .any) (H' := H1) hd
    obtain ⟨t, rfl, ht⟩ := r1.pair
    refine ⟨_, e, a, _, rfl, DGet.t (k := [Sum.inl p.1, Sum.inl p.2]) hH (g1.s _ _ ht), _, rfl, ?_⟩
    rw [dic_val]; exact q F1 H1 g1
theorem dic_put {ps : List (Int × Int)} {p : Int × Int} (h : ps.contains p = false) : putK (dicOf ps) [Sum.inl p.1, Sum.inl p.2] (V.bl true) = dicOf (ps ++ [p]) := by
  have h1 : ((dicOf ps).any fun kv => decide (kv.1 = [Sum.inl p.1, Sum.inl p.2])) = false := by
    rw [List.any_eq_false]
    intro kv hkv
    unfold dicOf at hkv
    obtain ⟨q, hq, rfl⟩ := List.mem_map.mp hkv
    intro z
    have z' := of_decide_eq_true z
    simp at z'
    have : q = p := Prod.ext z'.1 z'.2
    subst this
    rw [List.contains_eq_mem, decide_eq_false_iff_not] at h
    exact h hq
  unfold putK
  rw [h1, if_neg Bool.false_ne_true]
  unfold dicOf
  rw [List.map_append]; rfl
theorem g_dput {p : Int × Int} {ps : List (Int × Int)} (h : EvG c A Γ te (dP p)) (hd : Γ[i]? = some (.dic ps)) (hp : ps.contains p = false) (hl : ps.length < 100000) (k : GoN c A (Γ.set i (.dic (ps ++ [p]))) De.nx) : GoS c A Γ (sDPut (tVar i) te (tC (.bl true))) De := fun σ F H q => by
  obtain ⟨o, as, e, ⟨a, rfl, rfl, hH⟩, _⟩ := q.change (g' := .any) (H' := H) hd
  refine ⟨_, e, h σ F H _ q fun v F1 H1 g1 r1 => ?_⟩
  obtain ⟨t, rfl, ht⟩ := r1.pair
  obtain ⟨o', as', e', ⟨a', rfl, q2, hH'⟩, _, _, ch⟩ := (q.grow g1).change (g' := .dic (ps ++ [p])) (H' := upd H1 a (.dT (putK (dicOf ps) [Sum.inl p.1, Sum.inl p.2] (V.bl true)))) hd
  rw [e] at e'; cases e'; cases q2
  refine ⟨a, _, rfl, DPut.t (k := [Sum.inl p.1, Sum.inl p.2]) hH' (g1.s _ _ ht) (Nat.lt_of_lt_of_le (by unfold dicOf; rw [List.length_map]; exact hl) (by decide)), ?_⟩
  exact k σ F1 _ (ch (fun x hx => upd_ne fun z => hx (by simp [z])) ⟨a, rfl, rfl, by rw [upd_same, dic_put hp]⟩)
/-- list(d): the keys, tuples that H knows -/
theorem rpa_keys {K : PySem.W.Frag} {F : Hp} : ∀ {ps : List (Int × Int)} {bs : List Addr}, IsKeys F (dicOf ps) bs → RpA K F (bs.map V.ref) (ps.map dP)
  | [], _, .nil => .nil
  | p :: ps, _, .cons h t => .cons (.tup (xs := [.int p.1, .int p.2]) h (.cons (.int _) (.cons (.int _) .nil))) (rpa_keys (ps := ps) t)
theorem keys_tups {F : Hp} : ∀ {ps : List (Int × Int)} {bs : List Addr}, IsKeys F (dicOf ps) bs → ∀ b ∈ bs, ∃ xs, F b = some (.tup xs)
  | [], _, .nil, _, hb => by cases hb
  | p :: ps, _, .cons h t, b, hb => by
    rcases List.mem_cons.mp hb with rfl | hb
    · exact ⟨_, h⟩
    · exact keys_tups (ps := ps) t b hb
theorem keys_up {F : Hp} : ∀ {ps : List (Int × Int)} {bs cs : List Addr} {G : Hp}, (∀ b ∈ bs, b ∈ cs) → IsKeys F (dicOf ps) bs → IsKeys (takeAll F G cs) (dicOf ps) bs
  | [], _, _, _, _, .nil => .nil
  | p :: ps, _, cs, G, hm, .cons h t => .cons (by unfold takeAll; rw [if_pos (hm _ (by simp))]; exact h) (keys_up (ps := ps) (fun b hb => hm b (by simp [hb])) t)
theorem en_listD {ps : List (Int × Int)} (hd : Γ[i]? = some (.dic ps)) : EvN c A Γ (tCB (rListA c.K) (tCons (tVar i) tNil)) (ps.map dP) := fun σ F H Q k q => by
  obtain ⟨o, as, e, ⟨a, rfl, rfl, hH⟩, _⟩ := k.change (g' := .any) (H' := H) hd
  refine ⟨_, e, .inr ⟨a, dicOf ps, rfl, .inl hH, fun p bs hp hk => ?_⟩⟩
  have g1 := Gr.tups k.gr.s (keys_tups hk)
  have fp : takeAll H F bs p = none := by
    unfold takeAll
    rw [if_neg fun hm => ?_]
    · exact k.gr.s.back hp
    · obtain ⟨xs, hx⟩ := keys_tups hk p hm
      rw [hp] at hx; cases hx
  exact q p _ _ _ (g1.trans (Gr.out g1.s hp)) hp fp upd_same (rpa_keys (keys_up (fun b hb => hb) hk))
end
end DL
end
section
set_option Elab.async false
set_option linter.all false
set_option maxRecDepth 100000
set_option maxHeartbeats 4000000
/-! DL6: an instance in the making; a def's promise from its body's reading; calls by such promises; the top's facts. -/
namespace DL
open PySem PySem.Spec L2
section
variable {c : Ct} {A : Hp} {Γ Γ' Γ'' : List Sl} {te ta tb : TE} {tt tu : TT} {d e : D} {ds es : List D} {b : Bool} {De : Ends} {t u : TS} {R : D → Prop} {i j : Nat}
theorem putF_zip {f : Str} {y : V} : ∀ {ns : List Str} {vs : List V}, ns.length = vs.length → ns.contains f = false → putF f y (ns.zip vs) = (ns ++ [f]).zip (vs ++ [y])
  | [], [], _, _ => rfl
  | [], _ :: _, h, _ => by cases h
  | _ :: _, [], h, _ => by cases h
  | n :: ns, v :: vs, h, hc => by
    rw [List.contains_cons, Bool.or_eq_false_iff] at hc
    have e : ¬ n = f := fun z => by rw [z] at hc; exact absurd hc.1 (by simp)
    show (if n = f then (n, y) :: ns.zip vs else (n, v) :: putF f y (ns.zip vs)) = (n, v) :: (ns ++ [f]).zip (vs ++ [y])
    rw [if_neg e, putF_zip (by simpa using h) hc.2]
/-- self.f = e in an __init__ -/
theorem g_fldMk {x dx C : Addr} {ns : List Str} {f : Str} (h : EvG c A Γ te d) (hm : Γ[i]? = some (.mk x dx C ns ds)) (hc : Cls c.K C) (hn : NoAttr c.K C f) (hf : ns.contains f = false) (hl : ns.length < 1000) (k : GoN c A (Γ.set i (.mk x dx C (ns ++ [f]) (ds ++ [d]))) De.nx) :
    GoS c A Γ (sFld c.K (tVar i) te f) De := fun σ F H q =>
  h σ F H _ q fun v F1 H1 g1 r1 => by
    obtain ⟨o, as, e, ⟨vs, rfl, rfl, hH, hlen, r⟩, _⟩ := (q.grow g1).change (g' := .any) (H' := H1) hm
    obtain ⟨o', as', e', ⟨vs', rfl, e2, hH', _, _⟩, _, _, ch⟩ := (q.grow g1).change (g' := .mk x dx C (ns ++ [f]) (ds ++ [d])) (H' := upd H1 x (.ins C dx (putF f v (ns.zip vs)))) hm
    subst e2
    refine ⟨_, e, x, C, dx, _, rfl, hH, hc, hn, ?_, k σ F1 _ (ch (fun b hb => upd_ne fun z => hb (by simp [z])) ⟨vs ++ [v], rfl, rfl, ?_, by simp [hlen], r.append (.one r1)⟩)⟩
    · rw [List.length_zip, ← hlen, Nat.min_self]; exact hl
    · rw [upd_same, putF_zip hlen hf]
theorem ev_fldMk {x dx C : Addr} {ns : List Str} {f : Str} (hm : Γ[i]? = some (.mk x dx C ns ds)) (hc : Cls c.K C) (hn : NoAttr c.K C f) (hl : (ns.zip ds).lookup f = some d) : EvG c A Γ (tFld c.K (tVar i) f) d := fun σ F H Q k q => by
  obtain ⟨o, as, e, ⟨vs, rfl, rfl, hH, hlen, r⟩, _⟩ := k.change (g' := .any) (H' := H) hm
  obtain ⟨w, e1, e2⟩ := r.zipLookup hl
  exact ⟨_, e, x, C, dx, _, w, rfl, hH, hc, hn, e1, q w F H (Gr.refl k.gr.s) e2⟩
/-! ### a body's reading -/
theorem sls_start {K : PySem.W.Frag} {F H : Hp} : ∀ {vs : List V} {ds : List D} (n : Nat), RpA K F vs ds → Sls K F H (ds.map Sl.dat ++ List.replicate n Sl.any) (vs.map some ++ List.replicate n none) []
  | _, _, 0, .nil => rfl
  | _, _, n + 1, .nil => ⟨[], [], rfl, rfl, sls_start n .nil⟩
  | _, _, n, .cons r t => ⟨[], [], rfl, ⟨rfl, _, rfl, r⟩, sls_start n t⟩
theorem rd_of {K : PySem.W.Frag} {pre : List D → Prop} {R : List D → D → Prop} {t : TS} {N : List Str}
    (h : ∀ (c : Ct) (A : Hp) (ds : List D) (De : Ends), c.K = K → pre ds → RetOk c (R ds) De.rt → (∀ σ H, De.rt .non H → De.nx σ H) → GoS c A (ds.map Sl.dat ++ List.replicate (N.length - ds.length) Sl.any) t De)
    (vs : List V) (H : Hp) (Q : VK) (E : XK) (hs : spD K pre R vs H Q E) : t { nx := fun _ H' => Q .non H', rt := Q } (L2.start N vs) H := by
  obtain ⟨F, ds, eF, r, hp, q⟩ := hs
  refine h ⟨K, F, H⟩ F ds { nx := fun _ H' => Q .non H', rt := Q } rfl hp (fun v d F2 H2 hR g r2 => q v d F2 H2 hR g r2) (fun _ _ z => z) (L2.start N vs) F H ⟨Gr.refl eF, Ex.refl _, [], ?_, by simp, fun a ha => by cases ha⟩
  unfold L2.start
  rw [← r.len]
  exact sls_start _ r
/-- .. of an __init__ -/
theorem rd_init {K : PySem.W.Frag} {C : Addr} {ns : List Str} {pre : List D → Prop} {R : List D → List D → Prop} {t : TS} {N : List Str}
    (h : ∀ (c : Ct) (A : Hp) (x dx : Addr) (ds : List D) (De : Ends), c.K = K → pre ds → (∀ fs, R ds fs → ∀ Γ, GoN c A (.mk x dx C ns fs :: Γ) De.nx) → GoS c A (.mk x dx C [] [] :: (ds.map Sl.dat ++ List.replicate (N.length - (ds.length + 1)) Sl.any)) t De)
    (vs : List V) (H : Hp) (Q : VK) (E : XK) (hs : spI K C ns pre R vs H Q E) : t { nx := fun _ H' => Q .non H', rt := Q } (L2.start N vs) H := by
  obtain ⟨F, x, dx, vs', ds, rfl, hx, fx, eF, r, hp, q⟩ := hs
  have hgr : Gr F (fun b => if b = x then none else H b) F H := by
    refine ⟨Ex.refl _, fun b o hb => ?_, eF, fun _ _ _ _ z => z⟩
    have hb' : (if b = x then none else H b) = some o := hb
    by_cases e : b = x
    · rw [if_pos e] at hb'; cases hb'
    · rw [if_neg e] at hb'; exact hb'
  refine h ⟨K, F, fun b => if b = x then none else H b⟩ F x dx ds { nx := fun _ H' => Q .non H', rt := Q } rfl hp (fun fs hR Γ σ F2 H2 k => ?_) (L2.start N (.ref x :: vs')) F H ⟨hgr, Ex.refl _, [x], ⟨[x], [], rfl, ⟨[], rfl, rfl, hx, rfl, .nil⟩, ?_⟩, by simp, fun a ha => ?_⟩
  · obtain ⟨o, as, e, ⟨ws, rfl, rfl, hH, hlen, rr⟩, _, hn, _⟩ := k.change (i := 0) (g' := .any) (H' := H2) rfl
    exact q F2 H2 ws fs hR k.gr (hn x (by simp)).1 hH hlen rr
  · have e : (List.replicate (N.length - (.ref x :: vs').length) none : L2.St) = List.replicate (N.length - (ds.length + 1)) none := by rw [List.length_cons, r.len]
    show Sls K F H _ (vs'.map some ++ List.replicate (N.length - (V.ref x :: vs').length) none) []
    rw [e]
    exact sls_start _ r
  · simp at ha; subst ha
    exact ⟨fx, if_pos rfl⟩
theorem spD_len {K : PySem.W.Frag} {pre : List D → Prop} {R : List D → D → Prop} {n : Nat} (h : ∀ ds, pre ds → ds.length = n) (vs : List V) (H : Hp) (Q : VK) (E : XK) (hs : spD K pre R vs H Q E) : vs.length = n := by
  obtain ⟨F, ds, eF, r, hp, q⟩ := hs
  rw [r.len]; exact h ds hp
theorem spI_len {K : PySem.W.Frag} {C : Addr} {ns : List Str} {pre : List D → Prop} {R : List D → List D → Prop} {n : Nat} (h : ∀ ds, pre ds → ds.length + 1 = n) (vs : List V) (H : Hp) (Q : VK) (E : XK) (hs : spI K C ns pre R vs H Q E) : vs.length = n := by
  obtain ⟨F, x, dx, vs', ds, rfl, hx, fx, eF, r, hp, q⟩ := hs
  rw [List.length_cons, r.len]; exact h ds hp
end

/-! ### a def that keeps its promise -/
structure Good (P : Program) (w : World) (K : PySem.W.Frag) (mg : Str → Option Value) (base : Heap) (k : Nat) (f : Addr) (ps : List Str) (sp : Sp) : Prop where
  ex : ∃ fd, FnOk P w K mg base CX0 k f fd ps sp ∧ Binds K fd ps []
  kp : PySem.W.keepIn K (.ref f) = true
section
variable {X : Cx} {k : Nat} {f C : Addr} {ps : List Str} {sp : Sp} {x m : Str} {p pos apos : Pos} {e o : Expr} {es : List Expr} {ta : TE} {t : TA}
theorem pe_callG (G : Good X.prog X.w X.K X.mg X.base k f ps sp) (hr : Room k X.A) (hg : Gl X x) (hm : X.mg x = some (.ref f)) (ha : PA X (e :: es) t) (hdb : (x == ("__debug__" : Str)) = false := by decide)
    (he : starEach (e :: es) X.env = (false, eval e X.env) :: starEach es X.env := by rfl) (hpl : (backTo pos (starEach es X.env)).any (·.1) = false := by rfl) : PE X (.Call (.Name x p) (e :: es) [] pos) (tCall sp [] E0 t) := by
  obtain ⟨fd, F, b⟩ := G.ex
  exact pe_call F hr hg hm G.kp b .nil pass0 ha hdb he hpl
theorem pe_callG0 (G : Good X.prog X.w X.K X.mg X.base k f ps sp) (hr : Room k X.A) (hg : Gl X x) (hm : X.mg x = some (.ref f)) (hdb : (x == ("__debug__" : Str)) = false := by decide) : PE X (.Call (.Name x p) [] [] pos) (tCall sp [] E0 tNil) := by
  obtain ⟨fd, F, b⟩ := G.ex
  exact pe_call0 F hr hg hm G.kp b .nil pass0 hdb
theorem pe_methG {pl : Sem Bool} (he : PE X o ta) (c : Cls X.K C) (hm : Meth X.K C m f) (G : Good X.prog X.w X.K X.mg X.base k f ps sp) (hr : Room k X.A) (ha : PA X (e :: es) t)
    (hst : starEach (e :: es) X.env = (false, eval e X.env) :: starEach es X.env := by rfl) (hpl : (backTo pos (starEach es X.env)).any (·.1) = false := by rfl)
    (ht : eval (.Call (.Attribute o m apos) (e :: es) [] pos) X.env = (do
      let ov ← eval o X.env
      standAt apos.atName
      let (f, first) ← holding [ov] (getMethod ov m pl)
      callWith pos f first (backTo pos (starEach (e :: es) X.env)) (backToKw pos (keywordEach [] X.env))) := by rfl) : PE X (.Call (.Attribute o m apos) (e :: es) [] pos) (tMeth C m sp [] E0 ta t) := by
  obtain ⟨fd, F, b⟩ := G.ex
  exact pe_meth he c hm F hr b .nil pass0 ha hst hpl ht
theorem pe_methG0 {pl : Sem Bool} (he : PE X o ta) (c : Cls X.K C) (hm : Meth X.K C m f) (G : Good X.prog X.w X.K X.mg X.base k f ps sp) (hr : Room k X.A)
    (ht : eval (.Call (.Attribute o m apos) [] [] pos) X.env = (do
      let ov ← eval o X.env
      standAt apos.atName
      let (f, first) ← holding [ov] (getMethod ov m pl)
      callWith pos f first (backTo pos (starEach [] X.env)) (backToKw pos (keywordEach [] X.env))) := by rfl) : PE X (.Call (.Attribute o m apos) [] [] pos) (tMeth C m sp [] E0 ta tNil) := by
  obtain ⟨fd, F, b⟩ := G.ex
  exact pe_meth0 he c hm F hr b .nil pass0 ht
theorem pe_makeG (M : Mk X.K C f) (G : Good X.prog X.w X.K X.mg X.base k f ps sp) (hr : Room (k + 1) X.A) (hg : Gl X x) (hm : X.mg x = some (.ref C)) (ha : PA X (e :: es) t) (hdb : (x == ("__debug__" : Str)) = false := by decide)
    (he : starEach (e :: es) X.env = (false, eval e X.env) :: starEach es X.env := by rfl) (hpl : (backTo pos (starEach es X.env)).any (·.1) = false := by rfl) : PE X (.Call (.Name x p) (e :: es) [] pos) (tMake C sp [] E0 t) := by
  obtain ⟨fd, F, b⟩ := G.ex
  exact pe_make M F hr hg hm b .nil pass0 ha hdb he hpl
end
/-! ### the top's facts -/
structure Tx (K : PySem.W.Frag) (mg : Str → Option Value) (fa : List He.Fa) (fn : List He.DefD) (ex : PySem.W.Frag → Bool) : Prop where
  glob : ∃ h : Heap, K.In h ∧ h.Ns mainGlobals mg
  says : He.SaysD fa fn K
  ex : ex K = true
section
variable {P : Program} {w : World} {K : PySem.W.Frag} {mg : Str → Option Value} {base : Heap} {fa : List He.Fa} {fn : List He.DefD} {ex : PySem.W.Frag → Bool}
theorem Tx.glo (T : Tx K mg fa fn ex) (i : Nat) {x : Str} (h : fa[i]? = some (.glo x) := by rfl) : mg x = some (.ref (He.ga K x)) := by
  obtain ⟨hp, X, G⟩ := T.glob
  exact He.glo_ok X G (T.says.fact i h)
theorem Tx.free (T : Tx K mg fa fn ex) (i : Nat) {x : Str} (h : fa[i]? = some (.free x) := by rfl) : mg x = none := by
  obtain ⟨hp, X, G⟩ := T.glob
  exact He.free_ok X G (T.says.fact i h)
theorem Tx.int (T : Tx K mg fa fn ex) (i : Nat) {x : Str} {n : Int} (h : fa[i]? = some (.int x n) := by rfl) : ∃ u, mg x = some u ∧ RelV (.int n) u := by
  obtain ⟨hp, X, G⟩ := T.glob
  obtain ⟨t, e⟩ := He.int_ok X G (T.says.fact i h)
  exact ⟨_, e, t, rfl⟩
theorem Tx.cls (T : Tx K mg fa fn ex) (i : Nat) {x : Str} (h : fa[i]? = some (.cls x) := by rfl) : Cls K (He.ga K x) := He.cls_ok (T.says.fact i h)
theorem Tx.noat (T : Tx K mg fa fn ex) (i : Nat) {x f : Str} (h : fa[i]? = some (.noat x f) := by rfl) : NoAttr K (He.ga K x) f := He.noat_ok (T.says.fact i h)
theorem Tx.meth (T : Tx K mg fa fn ex) (i : Nat) {x m : Str} (h : fa[i]? = some (.meth x m) := by rfl) : Meth K (He.ga K x) m (He.ma K (He.ga K x) m) := He.meth_ok (T.says.fact i h)
theorem Tx.mkr (T : Tx K mg fa fn ex) (i : Nat) {x : Str} (h : fa[i]? = some (.mkr x) := by rfl) : Mk K (He.ga K x) (He.ma K (He.ga K x) "__init__") := He.mkr_ok (T.says.fact i h)
/-- a def of the top, by its reading -/
theorem Tx.good (T : Tx K mg fa fn ex) (i : Nat) (d : He.DefD) (h : fn[i]? = some d) (h0 : d.dfl = []) (h1 : d.kwd = []) {N ps : List Str} {k : Nat} {sp : Sp} (S : FnScope N ps d.scope)
    (hb : ∀ (kV doc pm : Value) (an : Option Addr) (cdv ct : Value) (us : List Value), us.length = ps.length → bindArgs (PySem.W.fnOf d.name d.qual d.params d.body d.scope .none kV doc pm an cdv ct) ⟨us, []⟩ = pure (ps.zip us))
    (len : ∀ vs H Q E, sp vs H Q E → vs.length = ps.length) {t : TS} (rd : ∀ vs H Q E, sp vs H Q E → t { nx := fun _ H' => Q .non H', rt := Q } (L2.start N vs) H)
    (hw : ∀ (fd : Addr) (cdv : Value) (A : Around) (outer : List Env) (s : Shared) (H : Hp) (E : XK), Room k (A.deeper (PyProof.Rows.envOfC d.qual d.scope s.heap.objs.size fd cdv)) → PSs (cxOf CX0 P w K mg base N d.qual d.scope fd cdv A outer s H E).nox d.body t) :
    Good P w K mg base (k + 1) (He.fAd K d.at_) ps sp := by
  obtain ⟨fd, F⟩ := T.says.def_ i h
  have e0 : d.dvs K = [] := by unfold He.DefD.dvs; rw [h0]; rfl
  have e1 : d.kws K = [] := by unfold He.DefD.kws; rw [h1]; rfl
  rw [e0, e1] at F
  refine ⟨⟨fd, F.ok S len fun cdv A outer s H vs Q E hr hs => ⟨t, (hw _ cdv A outer s H E hr).nox, rd vs H Q E hs⟩, F.bindsN hb⟩, F.kp⟩
end
end DL
end
section
set_option Elab.async false
set_option linter.all false
set_option maxRecDepth 100000
set_option maxHeartbeats 4000000
/-! DL7: a walk over a list or a tuple, a target that unpacks either. -/
namespace DL
open PySem PySem.Spec L2
def iSeq (K : PySem.W.Frag) (tl : TE) : TI := fun σ H R => tl σ H fun x H1 => ∃ a, x = .ref a ∧ (((∃ xs, SqL K H1 a xs) ∧ R (Itl K a) H1) ∨ ((∃ xs, SqT K H1 a xs) ∧ R (Itt K a) H1))
def gAny (K : PySem.W.Frag) (n : Nat) (t : TGs) : TG := fun v σ H Q => gTup K n t v σ H Q ∨ gUnl K n t v σ H Q
section
variable {X : Cx} {tg : Expr}
theorem PE.part {X : Cx} {l : Expr} {tl : TE} (hl : PE X l tl) {P : V → Hp → Prop} {R : Value → Shared → Prop} {pins : List (Addr × Obj)} {s : Shared} {σ : L2.St} {H : Hp} (I : Inv X pins σ H s) (h : tl σ H P)
    (k : ∀ x H1 v s1, Inv X pins σ H1 s1 → RelV x v → P x H1 → R v s1) : wpAny (model X.prog X.w) X.A (eval l X.env) R X.xe s :=
  thn (hl.run pins s σ H P I h) fun v s1 ⟨x, H1, I1, r1, q1⟩ => k x H1 v s1 I1 r1 q1
theorem pi_seq {l : Expr} {tl : TE} (hl : PE X l tl) : PI X tg l (iSeq X.K tl) := by
  refine ⟨fun pins s σ H R I h => ?_⟩
  refine thn (hl.run pins s σ H _ I h) fun v s1 ⟨x, H1, I1, r1, q1⟩ => ?_
  obtain ⟨a, e, q1⟩ := q1
  subst e
  cases r1
  rcases q1 with ⟨⟨xs, hq⟩, q⟩ | ⟨⟨xs, hq⟩, q⟩
  · obtain ⟨its, rv, p, hz⟩ := I1.list hq
    refine PySem.wpAny_pyIter_list p.isList ?_
    refine ⟨s1.heap.objs.size, [s1.heap.objs.size], _, _, H1, rfl, I1.kept (t' := s1.toks) fun b o e => Heap.get?_push_of_some _ e, turn_list a _, ⟨_, Heap.get?_push_size _ rfl, rfl, rfl⟩, fun b hb => ?_, q⟩
    have e : b = s1.heap.objs.size := by simpa using hb
    subst e
    exact I1.fpOk (Nat.le_refl _) (I1.hok.fresh (Nat.le_refl _))
  · obtain ⟨its, rv, p, hz⟩ := I1.tuple hq
    refine PySem.wpAny_pyIter_tuple (show s1.heap.IsTuple a its.toArray from p) ?_
    refine ⟨s1.heap.objs.size, [s1.heap.objs.size], _, _, H1, rfl, I1.kept (t' := s1.toks) fun b o e => Heap.get?_push_of_some _ e, turn_tuple a _, ⟨_, Heap.get?_push_size _ rfl, rfl, rfl⟩, fun b hb => ?_, q⟩
    have e : b = s1.heap.objs.size := by simpa using hb
    subst e
    exact I1.fpOk (Nat.le_refl _) (I1.hok.fresh (Nat.le_refl _))
theorem pg_any {es : List Expr} {k : Nat} {t : TGs} {n : Nat} {pos : Pos} (hc : X.calm = true) (h : PGs X es t)
    (hn : (assignEach es X.env).length = n := by rfl) (hst : (assignEach es X.env).findIdx? (·.1) = none := by rfl) : PG X (.Tuple es k pos) (gAny X.K n t) := by
  refine ⟨fun pins s σ H v u Q I r hw => ?_⟩
  rcases hw with hw | hw
  · exact (pg_tup hc h hn hst).run pins s σ H v u Q I r hw
  · exact (pg_unl hc h hn hst).run pins s σ H v u Q I r hw
end
section
variable {c : Ct} {A : Hp} {Γ Γ' : List Sl} {te : TE} {tt : TT} {d : D} {ds : List D} {De : Ends} {t : TS}
theorem ga_tup {gs : TGs} {js : List Nat} {n : Nat} (h : GoGs c A Γ gs ds Γ' js) (hn : ds.length = n) : GoG c A Γ (gAny c.K n gs) (.tup ds) Γ' js := fun σ F H v Q k r q => .inl (gg_tup h hn σ F H v Q k r q)
theorem ga_lst {gs : TGs} {js : List Nat} {n : Nat} (h : GoGs c A Γ gs ds Γ' js) (hn : ds.length = n) : GoG c A Γ (gAny c.K n gs) (.lst ds) Γ' js := fun σ F H v Q k r q => .inr (gg_lst h hn σ F H v Q k r q)
theorem TFor.sub {wi wi' : TI} {g : TG} {σ : L2.St} {H : Hp} (h : tFor wi g t De σ H) (e : ∀ R, wi σ H R → wi' σ H R) : tFor wi' g t De σ H := e _ h
theorem g_forS {tl : TE} {g : TG} {js : List Nat} (h : EvG c A Γ tl (.lst ds)) (G G' : Nat → List Sl) (h0 : Wk Γ (G 0)) (hg : ∀ i d A', ds[i]? = some d → GoG c A' (G i) g d (G' i) js)
    (hs : ∀ i d A' De', ds[i]? = some d → De'.rt = De.rt → GoN c A' (G (i + 1)) De'.nx → GoN c A' (G (i + 1)) De'.ct → (∀ Γ', GoN c A Γ' De.nx → GoN c A' Γ' De'.bk) → GoS c A' (G' i) t De')
    (hd : GoN c A (G ds.length) De.nx) : GoS c A Γ (tFor (iSeq c.K tl) g t) De := fun σ F H q =>
  -- the reading of a walk is monotone only by the expression's own; so once more from the start
  h σ F H _ q fun v F1 H1 gr r => by
    cases r with
    | @lst a vs _ h1 h2 =>
      refine ⟨a, rfl, .inl ⟨⟨vs, .inl (.inl (gr.s _ _ h1))⟩, ?_⟩⟩
      have up : Ex A F1 := q.an.trans gr.f
      refine for_list (K := c.K) (a := a) (xs := vs) (fun i σ' H' => ∃ F', Know c F1 (G i) σ' F' H') ⟨F1, ((q.grow gr).wk h0).anchor (Ex.refl _)⟩ (fun i σ' H' _ ⟨F', k'⟩ => .inl (.inl (k'.gr.s _ _ (k'.an _ _ h1)))) ?_ ?_
      · rintro i x σ' H' hx ⟨F', k'⟩
        obtain ⟨d, hd', rd⟩ := h2.getV hx
        refine hg i d F1 hd' σ' F' H' x _ k' (rd.mono k'.an) fun σ2 k2 _ => ?_
        exact hs i d F1 { De with nx := fun σ' H' => ∃ F', Know c F1 (G (i + 1)) σ' F' H', ct := fun σ' H' => ∃ F', Know c F1 (G (i + 1)) σ' F' H', bk := De.nx } hd' rfl (fun σ3 F3 H3 k3 => ⟨F3, k3⟩) (fun σ3 F3 H3 k3 => ⟨F3, k3⟩) (fun Γ' hn σ3 F3 H3 k3 => hn σ3 F3 H3 (k3.up up)) σ2 F' H' k2
      · rintro σ' H' ⟨F', k'⟩
        rw [h2.len] at k'
        exact hd σ' F' H' (k'.up up)
theorem g_forST {tl : TE} {g : TG} {js : List Nat} (h : EvG c A Γ tl (.tup ds)) (G G' : Nat → List Sl) (h0 : Wk Γ (G 0)) (hg : ∀ i d A', ds[i]? = some d → GoG c A' (G i) g d (G' i) js)
    (hs : ∀ i d A' De', ds[i]? = some d → De'.rt = De.rt → GoN c A' (G (i + 1)) De'.nx → GoN c A' (G (i + 1)) De'.ct → (∀ Γ', GoN c A Γ' De.nx → GoN c A' Γ' De'.bk) → GoS c A' (G' i) t De')
    (hd : GoN c A (G ds.length) De.nx) : GoS c A Γ (tFor (iSeq c.K tl) g t) De := fun σ F H q =>
  h σ F H _ q fun v F1 H1 gr r => by
    cases r with
    | @tup a vs _ h1 h2 =>
      refine ⟨a, rfl, .inr ⟨⟨vs, .inl (.inl (gr.s _ _ h1))⟩, ?_⟩⟩
      have up : Ex A F1 := q.an.trans gr.f
      refine for_tup (K := c.K) (a := a) (xs := vs) (fun i σ' H' => ∃ F', Know c F1 (G i) σ' F' H') ⟨F1, ((q.grow gr).wk h0).anchor (Ex.refl _)⟩ (fun i σ' H' _ ⟨F', k'⟩ => .inl (.inl (k'.gr.s _ _ (k'.an _ _ h1)))) ?_ ?_
      · rintro i x σ' H' hx ⟨F', k'⟩
        obtain ⟨d, hd', rd⟩ := h2.getV hx
        refine hg i d F1 hd' σ' F' H' x _ k' (rd.mono k'.an) fun σ2 k2 _ => ?_
        exact hs i d F1 { De with nx := fun σ' H' => ∃ F', Know c F1 (G (i + 1)) σ' F' H', ct := fun σ' H' => ∃ F', Know c F1 (G (i + 1)) σ' F' H', bk := De.nx } hd' rfl (fun σ3 F3 H3 k3 => ⟨F3, k3⟩) (fun σ3 F3 H3 k3 => ⟨F3, k3⟩) (fun Γ' hn σ3 F3 H3 k3 => hn σ3 F3 H3 (k3.up up)) σ2 F' H' k2
      · rintro σ' H' ⟨F', k'⟩
        rw [h2.len] at k'
        exact hd σ' F' H' (k'.up up)
/-- the comprehensions over either -/
theorem en_lcS {α : Type} {tl te : TE} {g : TG} {js vs : List Nat} (xs : List α) (enc : α → D) (p : α → Bool) (out : α → D) (Gx : α → List Sl) (h : EvG c A Γ tl (.lst (xs.map enc))) (hj : ∀ j ∈ js, j ∈ vs) (hl : xs.length ≤ 50000)
    (hg : ∀ x A', x ∈ xs → GoG c A' (wipeG Γ vs) g (enc x) (Gx x) js) (ht : ∀ x A', x ∈ xs → EvT c A' (Gx x) tt (p x)) (he : ∀ x A', x ∈ xs → p x = true → EvG c A' (Gx x) te (out x)) :
    EvN c A Γ (tLc (iSeq c.K tl) g tt te vs) ((xs.filter p).map out) := fun σ F H Q k q =>
  h σ F H _ k fun v F1 H1 g1 r1 => by
    cases r1 with
    | @lst a us _ h1 h2 =>
      have k1 := k.grow g1
      refine ⟨a, rfl, .inl ⟨⟨us, .inl (.inl (g1.s _ _ h1))⟩, fun Dl hD => ?_⟩⟩
      have hul : us.length = xs.length := by rw [h2.len, List.length_map]
      refine lc_list (K := c.K) (a := a) (xs := us) (fun i H' => CP c F1 H1 Dl (((xs.take i).filter p).map out) H') ⟨F1, [], Gr.out g1.s hD, g1.s.back hD, upd_same, .nil⟩ (fun i H' _ ⟨F', acc, gr, _⟩ => .inl (.inl (gr.s _ _ (gr.f _ _ h1)))) ?_ ?_
      · intro i x H' hx cp
        obtain ⟨d, hd', rd⟩ := h2.getV hx
        rw [List.getElem?_map] at hd'
        obtain ⟨z, hz, rfl⟩ := Option.map_eq_some_iff.mp hd'
        have hm : z ∈ xs := List.mem_of_getElem? hz
        have hlen : (((xs.take i).filter p).map out).length < 100000 := by
          rw [List.length_map]
          have h1 := List.length_filter_le p (xs.take i)
          have h2 : (xs.take i).length ≤ xs.length := by rw [List.length_take]; omega
          omega
        refine cp_turn (Γ' := Gx z) (b := p z) (y := out z) k1 hD cp hlen rd (fun A' => hg z A' hm) hj (fun A' => ht z A' hm) (fun hp A' => he z A' hm hp) fun H2 q2 => ?_
        have e : ((xs.take (i + 1)).filter p).map out = if p z = true then ((xs.take i).filter p).map out ++ [out z] else ((xs.take i).filter p).map out := by
          rw [List.take_add_one, hz, List.filter_append, List.map_append]
          show _ ++ List.map out (List.filter p [z]) = _
          by_cases hp : p z = true
          · rw [if_pos hp, List.filter_cons, if_pos hp]; rfl
          · rw [if_neg hp, List.filter_cons, if_neg hp]
            show _ ++ [] = _
            rw [List.append_nil]
        rw [e]; exact q2
      · rintro H' ⟨F', acc, gr, f1, h3, r3⟩
        rw [hul, List.take_length] at r3
        exact q Dl acc F' H' (g1.trans gr) (g1.h.back hD) f1 h3 r3
theorem en_lcST {α : Type} {tl te : TE} {g : TG} {js vs : List Nat} (xs : List α) (enc : α → D) (p : α → Bool) (out : α → D) (Gx : α → List Sl) (h : EvG c A Γ tl (.tup (xs.map enc))) (hj : ∀ j ∈ js, j ∈ vs) (hl : xs.length ≤ 50000)
    (hg : ∀ x A', x ∈ xs → GoG c A' (wipeG Γ vs) g (enc x) (Gx x) js) (ht : ∀ x A', x ∈ xs → EvT c A' (Gx x) tt (p x)) (he : ∀ x A', x ∈ xs → p x = true → EvG c A' (Gx x) te (out x)) :
    EvN c A Γ (tLc (iSeq c.K tl) g tt te vs) ((xs.filter p).map out) := fun σ F H Q k q =>
  h σ F H _ k fun v F1 H1 g1 r1 => by
    cases r1 with
    | @tup a us _ h1 h2 =>
      have k1 := k.grow g1
      refine ⟨a, rfl, .inr ⟨⟨us, .inl (.inl (g1.s _ _ h1))⟩, fun Dl hD => ?_⟩⟩
      have hul : us.length = xs.length := by rw [h2.len, List.length_map]
      refine lc_tup (K := c.K) (a := a) (xs := us) (fun i H' => CP c F1 H1 Dl (((xs.take i).filter p).map out) H') ⟨F1, [], Gr.out g1.s hD, g1.s.back hD, upd_same, .nil⟩ (fun i H' _ ⟨F', acc, gr, _⟩ => .inl (.inl (gr.s _ _ (gr.f _ _ h1)))) ?_ ?_
      · intro i x H' hx cp
        obtain ⟨d, hd', rd⟩ := h2.getV hx
        rw [List.getElem?_map] at hd'
        obtain ⟨z, hz, rfl⟩ := Option.map_eq_some_iff.mp hd'
        have hm : z ∈ xs := List.mem_of_getElem? hz
        have hlen : (((xs.take i).filter p).map out).length < 100000 := by
          rw [List.length_map]
          have h1 := List.length_filter_le p (xs.take i)
          have h2 : (xs.take i).length ≤ xs.length := by rw [List.length_take]; omega
          omega
        refine cp_turn (Γ' := Gx z) (b := p z) (y := out z) k1 hD cp hlen rd (fun A' => hg z A' hm) hj (fun A' => ht z A' hm) (fun hp A' => he z A' hm hp) fun H2 q2 => ?_
        have e : ((xs.take (i + 1)).filter p).map out = if p z = true then ((xs.take i).filter p).map out ++ [out z] else ((xs.take i).filter p).map out := by
          rw [List.take_add_one, hz, List.filter_append, List.map_append]
          show _ ++ List.map out (List.filter p [z]) = _
          by_cases hp : p z = true
          · rw [if_pos hp, List.filter_cons, if_pos hp]; rfl
          · rw [if_neg hp, List.filter_cons, if_neg hp]
            show _ ++ [] = _
            rw [List.append_nil]
        rw [e]; exact q2
      · rintro H' ⟨F', acc, gr, f1, h3, r3⟩
        rw [hul, List.take_length] at r3
        exact q Dl acc F' H' (g1.trans gr) (g1.h.back hD) f1 h3 r3
end
end DL
end
section
set_option Elab.async false
set_option linter.all false
set_option maxRecDepth 100000
set_option maxHeartbeats 4000000
/-! DL8: promises told as «these data in, this data out». -/
namespace DL
open PySem PySem.Spec L2
def spF (K : PySem.W.Frag) (P : List D → D → Prop) : Sp := fun vs H Q E => ∃ d, spD K (fun ds => P ds d) (fun _ x => x = d) vs H Q E
def spIF (K : PySem.W.Frag) (C : Addr) (ns : List Str) (P : List D → List D → Prop) : Sp := fun vs H Q E => ∃ fs, spI K C ns (fun ds => P ds fs) (fun _ x => x = fs) vs H Q E
section
variable {c : Ct} {A : Hp} {Γ : List Sl} {te ta tb : TE} {d : D} {ds : List D} {P : List D → D → Prop} {E : XK} {t : TA}
theorem ev_callF (h : EvA c A Γ t ds) (hp : P ds d) : EvG c A Γ (tCall (spF c.K P) [] E t) d := fun σ F H Q k q =>
  h σ F H _ k fun vs F1 H1 g1 r1 => ⟨d, F1, ds, g1.s, by rw [List.append_nil]; exact r1, hp, fun v x F2 H2 hR g r => q v F2 H2 (g1.trans g) (hR ▸ r)⟩
theorem ev_callFH (h : EvAH c A Γ t ds) (hp : P ds d) (hs : d.scal = true) : EvG c A Γ (tCall (spF c.K P) [] E t) d := fun σ F H Q k q =>
  h σ F H _ k fun vs F1 H1 g1 r1 => ⟨d, H1, ds, Ex.refl _, by rw [List.append_nil]; exact r1, hp, fun v x F2 H2 hR g r => by
    subst hR
    exact q v F1 H2 ⟨g1.f, g1.h.trans g.h, g1.s.trans g.h, g1.n⟩ (r.scal hs)⟩
theorem ev_methF {C : Addr} {m : Str} {ns : List Str} {fs : List D} (h : EvG c A Γ te (.obj C ns fs)) (hm : ns.contains m = false) (ha : EvA c A Γ t ds) (hp : P (.obj C ns fs :: ds) d) : EvG c A Γ (tMeth C m (spF c.K P) [] E te t) d := fun σ F H Q k q =>
  h σ F H _ k fun v F1 H1 g1 r1 => by
    have r1' := r1
    cases r1 with
    | @obj a _ dx _ vs _ h1 h2 h3 =>
      exact ⟨a, dx, _, rfl, g1.s _ _ h1, zip_lookup_none hm, ha σ F1 H1 _ (k.grow g1) fun ws F2 H2 g2 r2 =>
        ⟨d, F2, .obj C ns fs :: ds, g2.s, by rw [List.append_nil]; exact .cons (r1'.mono g2.f) r2, hp, fun v x F3 H3 hR g r => q v F3 H3 ((g1.trans g2).trans g) (hR ▸ r)⟩⟩
theorem ev_makeF {C : Addr} {ns : List Str} {fs : List D} {P : List D → List D → Prop} (ha : EvA c A Γ t ds) (hp : P ds fs) : EvG c A Γ (tMake C (spIF c.K C ns P) [] E t) (.obj C ns fs) := fun σ F H Q k q =>
  ha σ F H _ k fun vs F1 H1 g1 r1 x dx hx hdx ne => by
    have fx : F1 x = none := g1.s.back hx
    have h1 : Ex H1 (upd (upd H1 dx (.own x)) x (.ins C dx [])) := (Ex.new hdx).mut hx
    refine ⟨fs, F1, x, dx, vs, ds, by rw [List.append_nil], upd_same, fx, g1.s.trans h1, r1, hp, fun F2 H2 ws fs' hR g f2 h2 hl r => ⟨rfl, ?_⟩⟩
    subst hR
    have hH : Ex H1 H2 := fun b o hb => by
      have nb : b ≠ x := ne_of_none hb hx
      refine g.h b o ?_
      show (if b = x then none else upd (upd H1 dx (.own x)) x (.ins C dx []) b) = some o
      rw [if_neg nb]
      exact h1 b o hb
    have e2 : Ex F2 (upd F2 x (.ins C dx (ns.zip ws))) := Ex.new f2
    refine q (.ref x) (upd F2 x (.ins C dx (ns.zip ws))) H2 (g1.trans ⟨g.f.trans e2, hH, fun b o hb => ?_, fun b o h1' ht h2' => ?_⟩) (.obj upd_same hl (r.mono e2))
    · by_cases e : b = x
      · subst e; rw [upd_same] at hb; cases hb; exact h2
      · rw [upd_ne e] at hb; exact g.s _ _ hb
    · have nb : b ≠ x := ne_of_none h1' hx
      rw [upd_ne nb]
      refine g.n b o ?_ ht h2'
      show (if b = x then none else upd (upd H1 dx (.own x)) x (.ins C dx []) b) = some o
      rw [if_neg nb, upd_ne nb, upd_ne (ne_of_none h1' hdx)]
      exact h1'
theorem rd_ofF {K : PySem.W.Frag} {P : List D → D → Prop} {t : TS} {N : List Str}
    (h : ∀ (c : Ct) (A : Hp) (ds : List D) (d : D) (De : Ends), c.K = K → P ds d → RetOk c (fun x => x = d) De.rt → (∀ σ H, De.rt .non H → De.nx σ H) → GoS c A (ds.map Sl.dat ++ List.replicate (N.length - ds.length) Sl.any) t De)
    (vs : List V) (H : Hp) (Q : VK) (E : XK) (hs : spF K P vs H Q E) : t { nx := fun _ H' => Q .non H', rt := Q } (L2.start N vs) H := by
  obtain ⟨d, hs⟩ := hs
  exact rd_of (fun c A ds De hK hp hr hn => h c A ds d De hK hp hr hn) vs H Q E hs
theorem rd_initF {K : PySem.W.Frag} {C : Addr} {ns : List Str} {P : List D → List D → Prop} {t : TS} {N : List Str}
    (h : ∀ (c : Ct) (A : Hp) (x dx : Addr) (ds fs : List D) (De : Ends), c.K = K → P ds fs → (∀ Γ, GoN c A (.mk x dx C ns fs :: Γ) De.nx) → GoS c A (.mk x dx C [] [] :: (ds.map Sl.dat ++ List.replicate (N.length - (ds.length + 1)) Sl.any)) t De)
    (vs : List V) (H : Hp) (Q : VK) (E : XK) (hs : spIF K C ns P vs H Q E) : t { nx := fun _ H' => Q .non H', rt := Q } (L2.start N vs) H := by
  obtain ⟨fs, hs⟩ := hs
  exact rd_init (pre := fun ds => P ds fs) (R := fun _ x => x = fs) (fun c A x dx ds De hK hp hr => h c A x dx ds fs De hK hp (hr fs rfl)) vs H Q E hs
theorem spF_len {K : PySem.W.Frag} {P : List D → D → Prop} {n : Nat} (h : ∀ ds d, P ds d → ds.length = n) (vs : List V) (H : Hp) (Q : VK) (E : XK) (hs : spF K P vs H Q E) : vs.length = n := by
  obtain ⟨d, hs⟩ := hs
  exact spD_len (fun ds hp => h ds d hp) vs H Q E hs
theorem spIF_len {K : PySem.W.Frag} {C : Addr} {ns : List Str} {P : List D → List D → Prop} {n : Nat} (h : ∀ ds fs, P ds fs → ds.length + 1 = n) (vs : List V) (H : Hp) (Q : VK) (E : XK) (hs : spIF K C ns P vs H Q E) : vs.length = n := by
  obtain ⟨d, hs⟩ := hs
  exact spI_len (fun ds hp => h ds d hp) vs H Q E hs
theorem ev_tp (h : EvA c A Γ t ds) (hl : ds.length ≤ 100000 := by simp) : EvG c A Γ (tTup t) (.tup ds) := ev_tup h hl
theorem en_ls (h : EvA c A Γ t ds) (hl : ds.length ≤ 100000 := by simp) : EvN c A Γ (tLst t) ds := en_lst h hl
theorem et_andF {tt tu : TT} (h1 : EvT c A Γ tt false) : EvT c A Γ (tAnd tt tu) false := (et_and (y := false) h1 fun e => by cases e)
theorem et_andT {tt tu : TT} {b : Bool} (h1 : EvT c A Γ tt true) (h2 : EvT c A Γ tu b) : EvT c A Γ (tAnd tt tu) b := (et_and h1 fun _ => h2)
theorem et_orT {tt tu : TT} (h1 : EvT c A Γ tt true) : EvT c A Γ (tOr tt tu) true := (et_or (y := false) h1 fun e => by cases e)
theorem et_orF {tt tu : TT} {b : Bool} (h1 : EvT c A Γ tt false) (h2 : EvT c A Γ tu b) : EvT c A Γ (tOr tt tu) b := (et_or h1 fun _ => h2)
section
variable {De : Ends} {t u : TS} {i : Nat} {Γ' : List Sl} {R : D → Prop}
/-- x = e; the rest -/
theorem q_set (h : EvG c A Γ te d) (k : GoS c A (Γ.set i (.dat d)) u De) (hi : i < Γ.length := by simp) : GoS c A Γ (tSeq (tAsg te (gName i)) u) De := g_seq (g_set h hi k)
theorem q_setN (h : EvN c A Γ te ds) (k : GoS c A (Γ.set i (.own ds)) u De) (hi : i < Γ.length := by simp) : GoS c A Γ (tSeq (tAsg te (gName i)) u) De := g_seq (g_setN h hi k)
theorem q_setX (h : EvX c A Γ te d Γ') (k : GoS c A (Γ'.set i (.dat d)) u De) (hi : i < Γ'.length := by simp) : GoS c A Γ (tSeq (tAsg te (gName i)) u) De := g_seq (g_setX h hi k)
theorem q_asg {g : TG} {js : List Nat} (h : EvG c A Γ te d) (hg : GoG c A Γ g d Γ' js) (k : GoS c A Γ' u De) : GoS c A Γ (tSeq (tAsg te g) u) De := g_seq (g_asg h hg k)
/-- if t: raise ..; the rest -/
theorem q_no {tt : TT} (h : EvT c A Γ tt false) (k : GoS c A Γ u De) : GoS c A Γ (tSeq (tIfS tt t tNext) u) De := g_seq (g_ifF h (g_next k))
theorem q_drop (h : EvG c A Γ te d) (k : GoS c A Γ u De) : GoS c A Γ (tSeq (tDrop te) u) De := g_seq (g_drop h k)
theorem q_if {tt : TT} {b : Bool} (h : EvT c A Γ tt b) (h1 : b = true → GoS c A Γ t { De with nx := u De }) (h2 : b = false → GoS c A Γ u De) : GoS c A Γ (tSeq (tIfS tt t tNext) u) De := g_seq (g_if h h1 fun e => g_next (h2 e))
theorem q_for {α : Type} {tl : TE} {g : TG} {js : List Nat} (xs : List α) (enc : α → D) (G : Nat → List Sl) (T : Nat → α → List Sl) (h : EvG c A Γ tl (.lst (xs.map enc))) (h0 : Wk Γ (G 0)) (hg : ∀ i x A', xs[i]? = some x → GoG c A' (G i) g (enc x) (T i x) js)
    (hs : ∀ i x A' De', xs[i]? = some x → De'.rt = De.rt → GoN c A' (G (i + 1)) De'.nx → GoN c A' (G (i + 1)) De'.ct → (∀ Γ', GoN c A Γ' (u De) → GoN c A' Γ' De'.bk) → GoS c A' (T i x) t De')
    (hd : GoS c A (G xs.length) u De) : GoS c A Γ (tSeq (tFor (iSeq c.K tl) g t) u) De := by
  refine g_seq (g_forS h G (fun i => match xs[i]? with | some x => T i x | none => G i) h0 (js := js) (fun i d A' hd' => ?_) (fun i d A' De' hd' h1 h2 h3 h4 => ?_) (by rw [List.length_map]; exact hd))
  · rw [List.getElem?_map] at hd'
    obtain ⟨x, hx, rfl⟩ := Option.map_eq_some_iff.mp hd'
    simp only [hx]; exact hg i x A' hx
  · rw [List.getElem?_map] at hd'
    obtain ⟨x, hx, rfl⟩ := Option.map_eq_some_iff.mp hd'
    simp only [hx]; exact hs i x A' De' hx h1 h2 h3 h4
theorem q_forT {α : Type} {tl : TE} {g : TG} {js : List Nat} (xs : List α) (enc : α → D) (G : Nat → List Sl) (T : Nat → α → List Sl) (h : EvG c A Γ tl (.tup (xs.map enc))) (h0 : Wk Γ (G 0)) (hg : ∀ i x A', xs[i]? = some x → GoG c A' (G i) g (enc x) (T i x) js)
    (hs : ∀ i x A' De', xs[i]? = some x → De'.rt = De.rt → GoN c A' (G (i + 1)) De'.nx → GoN c A' (G (i + 1)) De'.ct → (∀ Γ', GoN c A Γ' (u De) → GoN c A' Γ' De'.bk) → GoS c A' (T i x) t De')
    (hd : GoS c A (G xs.length) u De) : GoS c A Γ (tSeq (tFor (iSeq c.K tl) g t) u) De := by
  refine g_seq (g_forST h G (fun i => match xs[i]? with | some x => T i x | none => G i) h0 (js := js) (fun i d A' hd' => ?_) (fun i d A' De' hd' h1 h2 h3 h4 => ?_) (by rw [List.length_map]; exact hd))
  · rw [List.getElem?_map] at hd'
    obtain ⟨x, hx, rfl⟩ := Option.map_eq_some_iff.mp hd'
    simp only [hx]; exact hg i x A' hx
  · rw [List.getElem?_map] at hd'
    obtain ⟨x, hx, rfl⟩ := Option.map_eq_some_iff.mp hd'
    simp only [hx]; exact hs i x A' De' hx h1 h2 h3 h4
end
theorem g_retF {De : Ends} (h : EvG c A Γ te d) (hk : RetOk c (fun x => x = d) De.rt) : GoS c A Γ (tRet te) De := g_retG h hk rfl
end
end DL
end
section
set_option Elab.async false
set_option linter.all false
set_option maxRecDepth 100000
set_option maxHeartbeats 4000000
/-! DL9: loops that also keep a plain fact; x += e; lists glued to an own one. -/
namespace DL
open PySem PySem.Spec L2
section
variable {c : Ct} {A : Hp} {Γ Γ' : List Sl} {te ta tb : TE} {d : D} {ds es : List D} {De : Ends} {t u : TS} {i j : Nat}
theorem g_aug {a b : Int} (h0 : Γ[i]? = some (.dat (.int a))) (h : EvG c A Γ te (.int b)) (k : GoN c A (Γ.set i (.dat (.int (a + b)))) De.nx) : GoS c A Γ (tAug i te (ipI fun i j => i + j)) De := fun σ F H q => by
  obtain ⟨v, e, r⟩ := q.dat h0
  cases r
  refine ⟨_, e, h σ F H _ q fun v2 F2 H2 g r2 => ?_⟩
  cases r2
  refine ⟨a, b, rfl, rfl, k _ F2 H2 ((q.grow g).set ?_ (.int _))⟩
  obtain ⟨h, _⟩ := List.getElem?_eq_some_iff.mp h0
  exact h
/-- xs + own -/
theorem en_catO (ha : EvG c A Γ ta (.lst ds)) (hb : Γ[i]? = some (.own es)) (hl : ds.length + es.length ≤ 100000) : EvN c A Γ (tOp rAddA ta (tVar i)) (ds ++ es) := fun σ F H Q k q =>
  ha σ F H _ k fun v1 F1 H1 g1 r1 => by
    cases r1 with
    | @lst a xs _ h1 q1 =>
      obtain ⟨b, ws, e, hH, r2, _, _⟩ := (k.grow g1).own hb
      refine ⟨_, e, .inr ⟨a, b, xs, ws, rfl, rfl, g1.s _ _ h1, hH, Nat.le_trans (by rw [q1.len, r2.len]; exact hl) (by decide), fun p hp => ?_⟩⟩
      exact q p _ F1 _ (g1.trans (Gr.out g1.s hp)) (g1.h.back hp) (g1.s.back hp) upd_same (q1.append r2)
/-- for i in range(n), a fact J kept -/
theorem g_forRJ {tn : TE} {n : Nat} (h : EvG c A Γ tn (.int (n : Int))) (hn : n ≤ 1000000) (G : Nat → List Sl) (J : Nat → Prop) (h0 : Wk Γ (G 0)) (j0 : J 0) (hj : ∀ i, j < (G i).length)
    (hs : ∀ i A' De', i < n → J i → De'.rt = De.rt → (J (i + 1) → GoN c A' (G (i + 1)) De'.nx) → (J (i + 1) → GoN c A' (G (i + 1)) De'.ct) → (∀ Γ', GoN c A Γ' De.nx → GoN c A' Γ' De'.bk) → GoS c A' ((G i).set j (.dat (.int (i : Int)))) t De')
    (hd : J n → GoN c A (G n) De.nx) : GoS c A Γ (tFor (iRng1 (tCons tn tNil)) (gName j) t) De := fun σ F H q =>
  h σ F H _ q fun v F1 H1 gr r => by
    cases r
    have up : Ex A F1 := q.an.trans gr.f
    refine ⟨(n : Int), rfl, by omega, by omega, for_range (lo := 0) (n := ((n : Nat) : Int).toNat) (fun i σ' H' => J i ∧ ∃ F', Know c F1 (G i) σ' F' H') ⟨j0, F1, ((q.grow gr).wk h0).anchor (Ex.refl _)⟩ ?_ ?_⟩
    · rintro i σ' H' hi ⟨ji, F', k'⟩
      have hi' : i < n := by omega
      have e : (0 : Int) + (i : Int) = (i : Int) := Int.zero_add _
      show t _ (σ'.set j (some (.int (0 + (i : Int))))) H'
      rw [e]
      exact hs i F1 { De with nx := fun σ' H' => J (i + 1) ∧ ∃ F', Know c F1 (G (i + 1)) σ' F' H', ct := fun σ' H' => J (i + 1) ∧ ∃ F', Know c F1 (G (i + 1)) σ' F' H', bk := De.nx } hi' ji rfl (fun z σ3 F3 H3 k3 => ⟨z, F3, k3⟩) (fun z σ3 F3 H3 k3 => ⟨z, F3, k3⟩) (fun Γ' hn σ3 F3 H3 k3 => hn σ3 F3 H3 (k3.up up)) _ F' H' (k'.set (hj i) (.int _))
    · rintro σ' H' ⟨ji, F', k'⟩
      rw [Int.toNat_natCast] at k' ji
      exact hd ji σ' F' H' (k'.up up)
theorem g_forR2J {tm tn : TE} {m n : Nat} (h1 : EvG c A Γ tm (.int (m : Int))) (h : EvG c A Γ tn (.int (n : Int))) (hm : m ≤ 1000000) (hn : n ≤ 1000000) (G : Nat → List Sl) (J : Nat → Prop) (h0 : Wk Γ (G 0)) (j0 : J 0) (hj : ∀ i, j < (G i).length)
    (hs : ∀ i A' De', m + i < n → J i → De'.rt = De.rt → (J (i + 1) → GoN c A' (G (i + 1)) De'.nx) → (J (i + 1) → GoN c A' (G (i + 1)) De'.ct) → (∀ Γ', GoN c A Γ' De.nx → GoN c A' Γ' De'.bk) → GoS c A' ((G i).set j (.dat (.int ((m + i : Nat) : Int)))) t De')
    (hd : J (n - m) → GoN c A (G (n - m)) De.nx) : GoS c A Γ (tFor (iRng2 (tCons tm (tCons tn tNil))) (gName j) t) De := fun σ F H q =>
  h1 σ F H _ q fun v0 F0 H0 gr0 r0 => h σ F0 H0 _ (q.grow gr0) fun v F1 H1 gr1 r => by
    cases r; cases r0
    have gr := gr0.trans gr1
    have up : Ex A F1 := q.an.trans gr.f
    have e0 : ((n : Int) - (m : Int)).toNat = n - m := by omega
    refine ⟨(m : Int), (n : Int), rfl, ⟨by omega, by omega, by omega, by omega⟩, for_range (lo := (m : Int)) (n := ((n : Int) - (m : Int)).toNat) (fun i σ' H' => J i ∧ ∃ F', Know c F1 (G i) σ' F' H') ⟨j0, F1, ((q.grow gr).wk h0).anchor (Ex.refl _)⟩ ?_ ?_⟩
    · rintro i σ' H' hi ⟨ji, F', k'⟩
      have hi' : m + i < n := by omega
      have e : (m : Int) + (i : Int) = ((m + i : Nat) : Int) := by omega
      show t _ (σ'.set j (some (.int ((m : Int) + (i : Int))))) H'
      rw [e]
      exact hs i F1 { De with nx := fun σ' H' => J (i + 1) ∧ ∃ F', Know c F1 (G (i + 1)) σ' F' H', ct := fun σ' H' => J (i + 1) ∧ ∃ F', Know c F1 (G (i + 1)) σ' F' H', bk := De.nx } hi' ji rfl (fun z σ3 F3 H3 k3 => ⟨z, F3, k3⟩) (fun z σ3 F3 H3 k3 => ⟨z, F3, k3⟩) (fun Γ' hn σ3 F3 H3 k3 => hn σ3 F3 H3 (k3.up up)) _ F' H' (k'.set (hj i) (.int _))
    · rintro σ' H' ⟨ji, F', k'⟩
      rw [e0] at k' ji
      exact hd ji σ' F' H' (k'.up up)
/-- for x in a list of data, a fact J kept -/
theorem q_forJ {α : Type} {tl : TE} {g : TG} {js : List Nat} (xs : List α) (enc : α → D) (G : Nat → List Sl) (J : Nat → Prop) (T : Nat → α → List Sl) (h : EvG c A Γ tl (.lst (xs.map enc))) (h0 : Wk Γ (G 0)) (j0 : J 0) (hg : ∀ i x A', xs[i]? = some x → GoG c A' (G i) g (enc x) (T i x) js)
    (hs : ∀ i x A' De', xs[i]? = some x → J i → De'.rt = De.rt → (J (i + 1) → GoN c A' (G (i + 1)) De'.nx) → (J (i + 1) → GoN c A' (G (i + 1)) De'.ct) → (∀ Γ', GoN c A Γ' (u De) → GoN c A' Γ' De'.bk) → GoS c A' (T i x) t De')
    (hd : J xs.length → GoS c A (G xs.length) u De) : GoS c A Γ (tSeq (tFor (iSeq c.K tl) g t) u) De := fun σ F H q =>
  h σ F H _ q fun v F1 H1 gr r => by
    cases r with
    | @lst a vs _ h1 h2 =>
      refine ⟨a, rfl, .inl ⟨⟨vs, .inl (.inl (gr.s _ _ h1))⟩, ?_⟩⟩
      have up : Ex A F1 := q.an.trans gr.f
      refine for_list (K := c.K) (a := a) (xs := vs) (fun i σ' H' => J i ∧ ∃ F', Know c F1 (G i) σ' F' H') ⟨j0, F1, ((q.grow gr).wk h0).anchor (Ex.refl _)⟩ (fun i σ' H' _ ⟨_, F', k'⟩ => .inl (.inl (k'.gr.s _ _ (k'.an _ _ h1)))) ?_ ?_
      · rintro i x σ' H' hx ⟨ji, F', k'⟩
        obtain ⟨d, hd', rd⟩ := h2.getV hx
        rw [List.getElem?_map] at hd'
        obtain ⟨z, hz, rfl⟩ := Option.map_eq_some_iff.mp hd'
        refine hg i z F1 hz σ' F' H' x _ k' (rd.mono k'.an) fun σ2 k2 _ => ?_
        exact hs i z F1 { De with nx := fun σ' H' => J (i + 1) ∧ ∃ F', Know c F1 (G (i + 1)) σ' F' H', ct := fun σ' H' => J (i + 1) ∧ ∃ F', Know c F1 (G (i + 1)) σ' F' H', bk := u De } hz ji rfl (fun z σ3 F3 H3 k3 => ⟨z, F3, k3⟩) (fun z σ3 F3 H3 k3 => ⟨z, F3, k3⟩) (fun Γ' hn σ3 F3 H3 k3 => hn σ3 F3 H3 (k3.up up)) σ2 F' H' k2
      · rintro σ' H' ⟨ji, F', k'⟩
        rw [h2.len, List.length_map] at k' ji
        exact hd ji σ' F' H' (k'.up up)
theorem q_forTJ {α : Type} {tl : TE} {g : TG} {js : List Nat} (xs : List α) (enc : α → D) (G : Nat → List Sl) (J : Nat → Prop) (T : Nat → α → List Sl) (h : EvG c A Γ tl (.tup (xs.map enc))) (h0 : Wk Γ (G 0)) (j0 : J 0) (hg : ∀ i x A', xs[i]? = some x → GoG c A' (G i) g (enc x) (T i x) js)
    (hs : ∀ i x A' De', xs[i]? = some x → J i → De'.rt = De.rt → (J (i + 1) → GoN c A' (G (i + 1)) De'.nx) → (J (i + 1) → GoN c A' (G (i + 1)) De'.ct) → (∀ Γ', GoN c A Γ' (u De) → GoN c A' Γ' De'.bk) → GoS c A' (T i x) t De')
    (hd : J xs.length → GoS c A (G xs.length) u De) : GoS c A Γ (tSeq (tFor (iSeq c.K tl) g t) u) De := fun σ F H q =>
  h σ F H _ q fun v F1 H1 gr r => by
    cases r with
    | @tup a vs _ h1 h2 =>
      refine ⟨a, rfl, .inr ⟨⟨vs, .inl (.inl (gr.s _ _ h1))⟩, ?_⟩⟩
      have up : Ex A F1 := q.an.trans gr.f
      refine for_tup (K := c.K) (a := a) (xs := vs) (fun i σ' H' => J i ∧ ∃ F', Know c F1 (G i) σ' F' H') ⟨j0, F1, ((q.grow gr).wk h0).anchor (Ex.refl _)⟩ (fun i σ' H' _ ⟨_, F', k'⟩ => .inl (.inl (k'.gr.s _ _ (k'.an _ _ h1)))) ?_ ?_
      · rintro i x σ' H' hx ⟨ji, F', k'⟩
        obtain ⟨d, hd', rd⟩ := h2.getV hx
        rw [List.getElem?_map] at hd'
        obtain ⟨z, hz, rfl⟩ := Option.map_eq_some_iff.mp hd'
        refine hg i z F1 hz σ' F' H' x _ k' (rd.mono k'.an) fun σ2 k2 _ => ?_
        exact hs i z F1 { De with nx := fun σ' H' => J (i + 1) ∧ ∃ F', Know c F1 (G (i + 1)) σ' F' H', ct := fun σ' H' => J (i + 1) ∧ ∃ F', Know c F1 (G (i + 1)) σ' F' H', bk := u De } hz ji rfl (fun z σ3 F3 H3 k3 => ⟨z, F3, k3⟩) (fun z σ3 F3 H3 k3 => ⟨z, F3, k3⟩) (fun Γ' hn σ3 F3 H3 k3 => hn σ3 F3 H3 (k3.up up)) σ2 F' H' k2
      · rintro σ' H' ⟨ji, F', k'⟩
        rw [h2.len, List.length_map] at k' ji
        exact hd ji σ' F' H' (k'.up up)
end
end DL
end
section
set_option Elab.async false
set_option linter.all false
set_option maxRecDepth 100000
set_option maxHeartbeats 4000000
namespace HD
open PySem PySem.Spec L2 DL
/-! ### the text, its defs by places -/
def top (i : Nat) : Stmt := PySem.Challenge.pw_colourcritical_k60_whole_fused_exactly.main.body.getD i (.Pass ⟨0, 0, 0, 0⟩)
abbrev s_checked_number : Stmt := top 14
abbrev s_checked_k : Stmt := top 15
abbrev s_checked_size : Stmt := top 16
abbrev s_checked_node : Stmt := top 17
abbrev s_checked_pair : Stmt := top 18
abbrev s_checked_lot : Stmt := top 19
abbrev s_Graph___init__ : Stmt := inClass (top 24) 0
abbrev s_Graph_adjacent : Stmt := inClass (top 24) 8
abbrev s_Graph_degree : Stmt := inClass (top 24) 10
abbrev s_Graph_without_edge : Stmt := inClass (top 24) 12
abbrev s_graph_edges : Stmt := top 25
abbrev s_graph_near : Stmt := top 26
abbrev s_fused : Stmt := top 31
abbrev s_divided : Stmt := top 32
abbrev s_checked_fusing : Stmt := top 33
abbrev s_checked_moved : Stmt := top 34
abbrev s_images_behind : Stmt := top 35
abbrev s_divided_edges : Stmt := top 36
abbrev s__lower_neighbours : Stmt := top 39
abbrev s__least_free : Stmt := top 40
abbrev s__visited : Stmt := top 41
abbrev s_first_colouring : Stmt := top 42
abbrev s_is_critical : Stmt := top 44
abbrev s_has_bare_node : Stmt := top 45
abbrev s_edge_colourings : Stmt := top 46
abbrev s__law_whole : Stmt := top 48
abbrev s__law_wholes : Stmt := top 49
abbrev s__law_source : Stmt := top 50
abbrev s__law_colouring : Stmt := top 51
abbrev s__law_form : Stmt := top 52
abbrev s__law_beside : Stmt := top 53
abbrev s__law_order : Stmt := top 54
abbrev s__law_mapped : Stmt := top 55
abbrev s__law_clique : Stmt := top 56
abbrev s__law_rim : Stmt := top 57
abbrev s__law_lots : Stmt := top 58
abbrev s__law_joined : Stmt := top 59
abbrev s__law_parted : Stmt := top 60
abbrev s__law_two_sides : Stmt := top 61
abbrev s__law_world : Stmt := top 62
abbrev s__law_picked : Stmt := top 63
abbrev s__law_answered : Stmt := top 64
abbrev s__law_lot_right : Stmt := top 65
abbrev s_law : Stmt := top 66
def d_checked_number : He.DefD := ⟨("checked_number", none), "checked_number", "checked_number", defArgs s_checked_number, defBody s_checked_number, defScope s_checked_number, [], []⟩
def d_checked_k : He.DefD := ⟨("checked_k", none), "checked_k", "checked_k", defArgs s_checked_k, defBody s_checked_k, defScope s_checked_k, [], []⟩
def d_checked_size : He.DefD := ⟨("checked_size", none), "checked_size", "checked_size", defArgs s_checked_size, defBody s_checked_size, defScope s_checked_size, [], []⟩
def d_checked_node : He.DefD := ⟨("checked_node", none), "checked_node", "checked_node", defArgs s_checked_node, defBody s_checked_node, defScope s_checked_node, [], []⟩
def d_checked_pair : He.DefD := ⟨("checked_pair", none), "checked_pair", "checked_pair", defArgs s_checked_pair, defBody s_checked_pair, defScope s_checked_pair, [], []⟩
def d_checked_lot : He.DefD := ⟨("checked_lot", none), "checked_lot", "checked_lot", defArgs s_checked_lot, defBody s_checked_lot, defScope s_checked_lot, [], []⟩
def d_Graph___init__ : He.DefD := ⟨("Graph", some "__init__"), "__init__", "Graph.__init__", defArgs s_Graph___init__, defBody s_Graph___init__, defScope s_Graph___init__, [], []⟩
def d_Graph_adjacent : He.DefD := ⟨("Graph", some "adjacent"), "adjacent", "Graph.adjacent", defArgs s_Graph_adjacent, defBody s_Graph_adjacent, defScope s_Graph_adjacent, [], []⟩
def d_Graph_degree : He.DefD := ⟨("Graph", some "degree"), "degree", "Graph.degree", defArgs s_Graph_degree, defBody s_Graph_degree, defScope s_Graph_degree, [], []⟩
def d_Graph_without_edge : He.DefD := ⟨("Graph", some "without_edge"), "without_edge", "Graph.without_edge", defArgs s_Graph_without_edge, defBody s_Graph_without_edge, defScope s_Graph_without_edge, [], []⟩
def d_graph_edges : He.DefD := ⟨("graph_edges", none), "graph_edges", "graph_edges", defArgs s_graph_edges, defBody s_graph_edges, defScope s_graph_edges, [], []⟩
def d_graph_near : He.DefD := ⟨("graph_near", none), "graph_near", "graph_near", defArgs s_graph_near, defBody s_graph_near, defScope s_graph_near, [], []⟩
def d_fused : He.DefD := ⟨("fused", none), "fused", "fused", defArgs s_fused, defBody s_fused, defScope s_fused, [], []⟩
def d_divided : He.DefD := ⟨("divided", none), "divided", "divided", defArgs s_divided, defBody s_divided, defScope s_divided, [], []⟩
def d_checked_fusing : He.DefD := ⟨("checked_fusing", none), "checked_fusing", "checked_fusing", defArgs s_checked_fusing, defBody s_checked_fusing, defScope s_checked_fusing, [], []⟩
def d_checked_moved : He.DefD := ⟨("checked_moved", none), "checked_moved", "checked_moved", defArgs s_checked_moved, defBody s_checked_moved, defScope s_checked_moved, [], []⟩
def d_images_behind : He.DefD := ⟨("images_behind", none), "images_behind", "images_behind", defArgs s_images_behind, defBody s_images_behind, defScope s_images_behind, [], []⟩
def d_divided_edges : He.DefD := ⟨("divided_edges", none), "divided_edges", "divided_edges", defArgs s_divided_edges, defBody s_divided_edges, defScope s_divided_edges, [], []⟩
def d__lower_neighbours : He.DefD := ⟨("_lower_neighbours", none), "_lower_neighbours", "_lower_neighbours", defArgs s__lower_neighbours, defBody s__lower_neighbours, defScope s__lower_neighbours, [], []⟩
def d__least_free : He.DefD := ⟨("_least_free", none), "_least_free", "_least_free", defArgs s__least_free, defBody s__least_free, defScope s__least_free, [], []⟩
def d__visited : He.DefD := ⟨("_visited", none), "_visited", "_visited", defArgs s__visited, defBody s__visited, defScope s__visited, [], []⟩
def d_first_colouring : He.DefD := ⟨("first_colouring", none), "first_colouring", "first_colouring", defArgs s_first_colouring, defBody s_first_colouring, defScope s_first_colouring, [], []⟩
def d_is_critical : He.DefD := ⟨("is_critical", none), "is_critical", "is_critical", defArgs s_is_critical, defBody s_is_critical, defScope s_is_critical, [], []⟩
def d_has_bare_node : He.DefD := ⟨("has_bare_node", none), "has_bare_node", "has_bare_node", defArgs s_has_bare_node, defBody s_has_bare_node, defScope s_has_bare_node, [], []⟩
def d_edge_colourings : He.DefD := ⟨("edge_colourings", none), "edge_colourings", "edge_colourings", defArgs s_edge_colourings, defBody s_edge_colourings, defScope s_edge_colourings, [], []⟩
def d__law_whole : He.DefD := ⟨("_law_whole", none), "_law_whole", "_law_whole", defArgs s__law_whole, defBody s__law_whole, defScope s__law_whole, [], []⟩
def d__law_wholes : He.DefD := ⟨("_law_wholes", none), "_law_wholes", "_law_wholes", defArgs s__law_wholes, defBody s__law_wholes, defScope s__law_wholes, [], []⟩
def d__law_source : He.DefD := ⟨("_law_source", none), "_law_source", "_law_source", defArgs s__law_source, defBody s__law_source, defScope s__law_source, [], []⟩
def d__law_colouring : He.DefD := ⟨("_law_colouring", none), "_law_colouring", "_law_colouring", defArgs s__law_colouring, defBody s__law_colouring, defScope s__law_colouring, [], []⟩
def d__law_form : He.DefD := ⟨("_law_form", none), "_law_form", "_law_form", defArgs s__law_form, defBody s__law_form, defScope s__law_form, [], []⟩
def d__law_beside : He.DefD := ⟨("_law_beside", none), "_law_beside", "_law_beside", defArgs s__law_beside, defBody s__law_beside, defScope s__law_beside, [], []⟩
def d__law_order : He.DefD := ⟨("_law_order", none), "_law_order", "_law_order", defArgs s__law_order, defBody s__law_order, defScope s__law_order, [], []⟩
def d__law_mapped : He.DefD := ⟨("_law_mapped", none), "_law_mapped", "_law_mapped", defArgs s__law_mapped, defBody s__law_mapped, defScope s__law_mapped, [], []⟩
def d__law_clique : He.DefD := ⟨("_law_clique", none), "_law_clique", "_law_clique", defArgs s__law_clique, defBody s__law_clique, defScope s__law_clique, [], []⟩
def d__law_rim : He.DefD := ⟨("_law_rim", none), "_law_rim", "_law_rim", defArgs s__law_rim, defBody s__law_rim, defScope s__law_rim, [], []⟩
def d__law_lots : He.DefD := ⟨("_law_lots", none), "_law_lots", "_law_lots", defArgs s__law_lots, defBody s__law_lots, defScope s__law_lots, [], []⟩
def d__law_joined : He.DefD := ⟨("_law_joined", none), "_law_joined", "_law_joined", defArgs s__law_joined, defBody s__law_joined, defScope s__law_joined, [], []⟩
def d__law_parted : He.DefD := ⟨("_law_parted", none), "_law_parted", "_law_parted", defArgs s__law_parted, defBody s__law_parted, defScope s__law_parted, [], []⟩
def d__law_two_sides : He.DefD := ⟨("_law_two_sides", none), "_law_two_sides", "_law_two_sides", defArgs s__law_two_sides, defBody s__law_two_sides, defScope s__law_two_sides, [], []⟩
def d__law_world : He.DefD := ⟨("_law_world", none), "_law_world", "_law_world", defArgs s__law_world, defBody s__law_world, defScope s__law_world, [], []⟩
def d__law_picked : He.DefD := ⟨("_law_picked", none), "_law_picked", "_law_picked", defArgs s__law_picked, defBody s__law_picked, defScope s__law_picked, [], []⟩
def d__law_answered : He.DefD := ⟨("_law_answered", none), "_law_answered", "_law_answered", defArgs s__law_answered, defBody s__law_answered, defScope s__law_answered, [], []⟩
def d__law_lot_right : He.DefD := ⟨("_law_lot_right", none), "_law_lot_right", "_law_lot_right", defArgs s__law_lot_right, defBody s__law_lot_right, defScope s__law_lot_right, [], []⟩
def d_law : He.DefD := ⟨("law", none), "law", "law", defArgs s_law, defBody s_law, defScope s_law, [], []⟩
def fn : List He.DefD := [d_checked_number, d_checked_k, d_checked_size, d_checked_node, d_checked_pair, d_checked_lot, d_Graph___init__, d_Graph_adjacent, d_Graph_degree, d_Graph_without_edge, d_graph_edges, d_graph_near, d_fused, d_divided, d_checked_fusing, d_checked_moved, d_images_behind, d_divided_edges, d__lower_neighbours, d__least_free, d__visited, d_first_colouring, d_is_critical, d_has_bare_node, d_edge_colourings, d__law_whole, d__law_wholes, d__law_source, d__law_colouring, d__law_form, d__law_beside, d__law_order, d__law_mapped, d__law_clique, d__law_rim, d__law_lots, d__law_joined, d__law_parted, d__law_two_sides, d__law_world, d__law_picked, d__law_answered, d__law_lot_right, d_law]
def fa : List He.Fa := [.glo "checked_number", .glo "checked_k", .glo "checked_size", .glo "checked_node", .glo "checked_pair", .glo "checked_lot", .glo "graph_edges", .glo "graph_near", .glo "fused", .glo "divided", .glo "checked_fusing", .glo "checked_moved", .glo "images_behind", .glo "divided_edges", .glo "_lower_neighbours", .glo "_least_free", .glo "_visited", .glo "first_colouring", .glo "is_critical", .glo "has_bare_node", .glo "edge_colourings", .glo "_law_whole", .glo "_law_wholes", .glo "_law_source", .glo "_law_colouring", .glo "_law_form", .glo "_law_beside", .glo "_law_order", .glo "_law_mapped", .glo "_law_clique", .glo "_law_rim", .glo "_law_lots", .glo "_law_joined", .glo "_law_parted", .glo "_law_two_sides", .glo "_law_world", .glo "_law_picked", .glo "_law_answered", .glo "_law_lot_right", .glo "law", .glo "Graph", .cls "Graph", .mkr "Graph", .noat "Graph" "nodes", .noat "Graph" "edges", .noat "Graph" "_near", .meth "Graph" "adjacent", .meth "Graph" "degree", .meth "Graph" "without_edge", .free "all", .free "bool", .free "int", .free "isinstance", .free "len", .free "list", .free "max", .free "min", .free "range", .free "sorted", .free "tuple", .int "MOST_NODES" (48), .int "WALK_LIMIT" (5000)]
def exB (K : PySem.W.Frag) : Bool := (decide (PySem.W.findIn K (.ref (He.ga K "Graph")) "__class__" = some (some (.builtin "object.__class__"))) && (decide (PySem.W.specialIn K (.builtin "object.__class__") "__get__" = some (some (.builtin "getset_descriptor.__get__"))) && (decide (PySem.W.takesIn K (.builtin "object.__class__") = some true) && (decide (PySem.W.mroIn K (He.ga K "Graph") (.type "object") = some true) && decide (PySem.W.kitOne K (.ref (He.ga K "Graph")) (.ref (He.ga K "Graph")) = some true)))))
section
variable {P : Program} {w : World} {K : PySem.W.Frag} {mg : Str → Option Value} {base : Heap}
theorem sc_checked_number : FnScope ["number", "low", "high"] ["number", "low", "high"] (defScope s_checked_number) := ⟨rfl, rfl, rfl, by decide +kernel, rfl, by decide +kernel, by decide +kernel⟩
def t_checked_number (K : PySem.W.Frag) : TS := tSeq (tIfS (tOr (tTest (tOp (rI0 fun i j => .bl (decide (i < j))) (tVar 0) (tVar 1))) (tTest (tOp (rI0 fun i j => .bl (decide (j < i))) (tVar 0) (tVar 2)))) (tNever) (tNext)) (tRet (tVar 0))
theorem ok_checked_number {sp : Sp} (T : Tx K mg fa fn exB)
    (rd : ∀ vs H Q E, sp vs H Q E → t_checked_number K { nx := fun _ H' => Q .non H', rt := Q } (L2.start ["number", "low", "high"] vs) H) (len : ∀ vs H Q E, sp vs H Q E → vs.length = 3) : Good P w K mg base 1 (He.fAd K ("checked_number", none)) ["number", "low", "high"] sp :=
  T.good 0 d_checked_number rfl rfl rfl (ps := ["number", "low", "high"]) (k := 0) sc_checked_number (fun _ _ _ _ _ _ us hl => match us, hl with | [_, _, _], _ => rfl) len rd fun fd cdv A outer s H E hr =>
    (pss_cons (ps_if (PW.pt (pw_or (pt_cmpR op_lt (pv 0) (pv 1) (by first | exact nomark _ | rfl)) (pw_or1 (pt_cmpR op_gt (pv 0) (pv 2) (by first | exact nomark _ | rfl))))) (pss_one ps_never) pss_nil) (pss_one (ps_ret (pv 0))))
theorem sc_checked_k : FnScope ["k"] ["k"] (defScope s_checked_k) := ⟨rfl, rfl, rfl, by decide +kernel, rfl, by decide +kernel, by decide +kernel⟩
def t_checked_k (K : PySem.W.Frag) (sp_checked_number : Sp) : TS := tRet (tCall sp_checked_number [] E0 (tCons (tVar 0) (tCons (tC (.int 1)) (tCons (tC (.int 6)) tNil))))
theorem ok_checked_k {sp sp_checked_number : Sp} (T : Tx K mg fa fn exB) (G_checked_number : Good P w K mg base 1 (He.fAd K ("checked_number", none)) ["number", "low", "high"] sp_checked_number)
    (rd : ∀ vs H Q E, sp vs H Q E → t_checked_k K sp_checked_number { nx := fun _ H' => Q .non H', rt := Q } (L2.start ["k"] vs) H) (len : ∀ vs H Q E, sp vs H Q E → vs.length = 1) : Good P w K mg base 2 (He.fAd K ("checked_k", none)) ["k"] sp :=
  T.good 1 d_checked_k rfl rfl rfl (ps := ["k"]) (k := 1) sc_checked_k (fun _ _ _ _ _ _ us hl => match us, hl with | [_], _ => rfl) len rd fun fd cdv A outer s H E hr =>
    (pss_one (ps_ret (pe_callG G_checked_number (hr.mono (by decide)) (by rfl) (T.glo 0) (pa_cons (pv 0) (pa_cons pe_int (pa_cons pe_int pa_nil))))))
theorem sc_checked_size : FnScope ["entries", "low", "high", "count"] ["entries", "low", "high"] (defScope s_checked_size) := ⟨rfl, rfl, rfl, by decide +kernel, rfl, by decide +kernel, by decide +kernel⟩
def t_checked_size (K : PySem.W.Frag) : TS := tSeq (tAsg (tCB (rLenA K) (tCons (tVar 0) tNil)) (gName 3)) (tSeq (tIfS (tTest (tOp (rI0 fun i j => .bl (decide (i < j))) (tVar 3) (tVar 1))) (tNever) (tNext)) (tSeq (tIfS (tAnd (tTest (tOp rNotNA (tVar 2) (tC .non))) (tTest (tOp (rI0 fun i j => .bl (decide (j < i))) (tVar 3) (tVar 2)))) (tNever) (tNext)) (tRet (tCB (rListA K) (tCons (tVar 0) tNil)))))
theorem ok_checked_size {sp : Sp} (T : Tx K mg fa fn exB)
    (rd : ∀ vs H Q E, sp vs H Q E → t_checked_size K { nx := fun _ H' => Q .non H', rt := Q } (L2.start ["entries", "low", "high", "count"] vs) H) (len : ∀ vs H Q E, sp vs H Q E → vs.length = 3) : Good P w K mg base 1 (He.fAd K ("checked_size", none)) ["entries", "low", "high"] sp :=
  T.good 2 d_checked_size rfl rfl rfl (ps := ["entries", "low", "high"]) (k := 0) sc_checked_size (fun _ _ _ _ _ _ us hl => match us, hl with | [_, _, _], _ => rfl) len rd fun fd cdv A outer s H E hr =>
    (pss_cons (ps_set (i := 3) sc_checked_size.nd rfl (by first | exact Or.inl rfl | exact Or.inr rfl) (pe_callB dl_len (by rfl) (T.free 53) (by decide +kernel) (pa_cons (pv 0) pa_nil))) (pss_cons (ps_if (pt_cmpR op_lt (pv 3) (pv 1) (by first | exact nomark _ | rfl)) (pss_one ps_never) pss_nil) (pss_cons (ps_if (PW.pt (pw_and (pt_cmpR dl_notN (pv 2) pe_non (by first | exact nomark _ | rfl)) (pw_and1 (pt_cmpR op_gt (pv 3) (pv 2) (by first | exact nomark _ | rfl))))) (pss_one ps_never) pss_nil) (pss_one (ps_ret (pe_callTy (dl_list rfl) (by rfl) (T.free 54) (by decide +kernel) (pa_cons (pv 0) pa_nil)))))))
theorem sc_checked_node : FnScope ["node", "nodes"] ["node", "nodes"] (defScope s_checked_node) := ⟨rfl, rfl, rfl, by decide +kernel, rfl, by decide +kernel, by decide +kernel⟩
def t_checked_node (K : PySem.W.Frag) : TS := tSeq (tIfS (tOr (tTest (tOp (rI0 fun i j => .bl (decide (i < j))) (tVar 0) (tC (.int 0)))) (tTest (tOp (rI0 fun i j => .bl (decide (j ≤ i))) (tVar 0) (tVar 1)))) (tNever) (tNext)) (tRet (tVar 0))
theorem ok_checked_node {sp : Sp} (T : Tx K mg fa fn exB)
    (rd : ∀ vs H Q E, sp vs H Q E → t_checked_node K { nx := fun _ H' => Q .non H', rt := Q } (L2.start ["node", "nodes"] vs) H) (len : ∀ vs H Q E, sp vs H Q E → vs.length = 2) : Good P w K mg base 1 (He.fAd K ("checked_node", none)) ["node", "nodes"] sp :=
  T.good 3 d_checked_node rfl rfl rfl (ps := ["node", "nodes"]) (k := 0) sc_checked_node (fun _ _ _ _ _ _ us hl => match us, hl with | [_, _], _ => rfl) len rd fun fd cdv A outer s H E hr =>
    (pss_cons (ps_if (PW.pt (pw_or (pt_cmpR op_lt (pv 0) pe_int (by first | exact nomark _ | rfl)) (pw_or1 (pt_cmpR op_ge (pv 0) (pv 1) (by first | exact nomark _ | rfl))))) (pss_one ps_never) pss_nil) (pss_one (ps_ret (pv 0))))
theorem sc_checked_pair : FnScope ["u", "v", "nodes"] ["u", "v", "nodes"] (defScope s_checked_pair) := ⟨rfl, rfl, rfl, by decide +kernel, rfl, by decide +kernel, by decide +kernel⟩
def t_checked_pair (K : PySem.W.Frag) (sp_checked_node : Sp) : TS := tSeq (tDrop (tCall sp_checked_node [] E0 (tCons (tVar 0) (tCons (tVar 2) tNil)))) (tSeq (tDrop (tCall sp_checked_node [] E0 (tCons (tVar 1) (tCons (tVar 2) tNil)))) (tSeq (tIfS (tTest (tOp (rEqD K) (tVar 0) (tVar 1))) (tNever) (tNext)) (tSeq (tIfS (tTest (tOp (rI0 fun i j => .bl (decide (i < j))) (tVar 0) (tVar 1))) (tRet (tTup (tCons (tVar 0) (tCons (tVar 1) tNil)))) (tNext)) (tRet (tTup (tCons (tVar 1) (tCons (tVar 0) tNil)))))))
theorem ok_checked_pair {sp sp_checked_node : Sp} (T : Tx K mg fa fn exB) (G_checked_node : Good P w K mg base 1 (He.fAd K ("checked_node", none)) ["node", "nodes"] sp_checked_node)
    (rd : ∀ vs H Q E, sp vs H Q E → t_checked_pair K sp_checked_node { nx := fun _ H' => Q .non H', rt := Q } (L2.start ["u", "v", "nodes"] vs) H) (len : ∀ vs H Q E, sp vs H Q E → vs.length = 3) : Good P w K mg base 2 (He.fAd K ("checked_pair", none)) ["u", "v", "nodes"] sp :=
  T.good 4 d_checked_pair rfl rfl rfl (ps := ["u", "v", "nodes"]) (k := 1) sc_checked_pair (fun _ _ _ _ _ _ us hl => match us, hl with | [_, _, _], _ => rfl) len rd fun fd cdv A outer s H E hr =>
    (pss_cons (ps_expr (pe_callG G_checked_node (hr.mono (by decide)) (by rfl) (T.glo 3) (pa_cons (pv 0) (pa_cons (pv 2) pa_nil)))) (pss_cons (ps_expr (pe_callG G_checked_node (hr.mono (by decide)) (by rfl) (T.glo 3) (pa_cons (pv 1) (pa_cons (pv 2) pa_nil)))) (pss_cons (ps_if (pt_cmpR (op_eqD hr.units) (pv 0) (pv 1) (by first | exact nomark _ | rfl)) (pss_one ps_never) pss_nil) (pss_cons (ps_if (pt_cmpR op_lt (pv 0) (pv 1) (by first | exact nomark _ | rfl)) (pss_one (ps_ret (pe_tup (pa_cons (pv 0) (pa_cons (pv 1) pa_nil))))) pss_nil) (pss_one (ps_ret (pe_tup (pa_cons (pv 1) (pa_cons (pv 0) pa_nil)))))))))
theorem sc_checked_lot : FnScope ["entries", "nodes", "lot", "node"] ["entries", "nodes"] (defScope s_checked_lot) := ⟨rfl, rfl, rfl, by decide +kernel, rfl, by decide +kernel, by decide +kernel⟩
def t_checked_lot (K : PySem.W.Frag) (sp_checked_node : Sp) : TS := tSeq (tAsg (tLst (tNil)) (gName 2)) (tSeq (tFor (iSeq K (tVar 0)) (gName 3) (tSeq (tDrop (tCall sp_checked_node [] E0 (tCons (tVar 3) (tCons (tVar 1) tNil)))) (tSeq (tIfS (tTest (tOp (rIn K false) (tVar 3) (tVar 2))) (tNever) (tNext)) (tDrop (tBM K "list" rAppend (tVar 2) (tCons (tVar 3) tNil)))))) (tRet (tCB (rTupA K) (tCons (tCB (rSortA K) (tCons (tVar 2) tNil)) tNil))))
theorem ok_checked_lot {sp sp_checked_node : Sp} (T : Tx K mg fa fn exB) (G_checked_node : Good P w K mg base 1 (He.fAd K ("checked_node", none)) ["node", "nodes"] sp_checked_node)
    (rd : ∀ vs H Q E, sp vs H Q E → t_checked_lot K sp_checked_node { nx := fun _ H' => Q .non H', rt := Q } (L2.start ["entries", "nodes", "lot", "node"] vs) H) (len : ∀ vs H Q E, sp vs H Q E → vs.length = 2) : Good P w K mg base 2 (He.fAd K ("checked_lot", none)) ["entries", "nodes"] sp :=
  T.good 5 d_checked_lot rfl rfl rfl (ps := ["entries", "nodes"]) (k := 1) sc_checked_lot (fun _ _ _ _ _ _ us hl => match us, hl with | [_, _], _ => rfl) len rd fun fd cdv A outer s H E hr =>
    (pss_cons (ps_set (i := 2) sc_checked_lot.nd rfl (by first | exact Or.inl rfl | exact Or.inr rfl) (pe_lst pa_nil)) (pss_cons (ps_for PassesOwn.never rfl (pi_seq (pv 0)) (pg_name (i := 3) sc_checked_lot.nd rfl (by first | exact Or.inl rfl | exact Or.inr rfl)) (pss_cons (ps_expr (pe_callG G_checked_node (hr.mono (by decide)) (by rfl) (T.glo 3) (pa_cons (pv 3) (pa_cons (pv 1) pa_nil)))) (pss_cons (ps_if (pt_cmpR op_in_seq (pv 3) (pv 2) (by first | exact nomark _ | rfl)) (pss_one ps_never) pss_nil) (pss_one (ps_expr (pe_bm PySem.F.plainAttrs_list PySem.F.slot_list_append PySem.F.type_list_append mt_append (pv 2) (pa_cons (pv 3) pa_nil))))))) (pss_one (ps_ret (pe_callTy dl_tuple (by rfl) (T.free 59) (by decide +kernel) (pa_cons (pe_callB dl_sorted (by rfl) (T.free 58) (by decide +kernel) (pa_cons (pv 2) pa_nil)) pa_nil))))))
theorem sc_graph_edges : FnScope ["edges", "nodes", "taken", "u", "v", "first", "second"] ["edges", "nodes"] (defScope s_graph_edges) := ⟨rfl, rfl, rfl, by decide +kernel, rfl, by decide +kernel, by decide +kernel⟩
def t_graph_edges (K : PySem.W.Frag) (sp_checked_pair : Sp) : TS := tSeq (tAsg (tDNewT) (gName 2)) (tSeq (tFor (iSeq K (tVar 0)) (gAny K 2 (gCons (gName 3) (gCons (gName 4) (gNil)))) (tSeq (tAsg (tCall sp_checked_pair [] E0 (tCons (tVar 3) (tCons (tVar 4) (tCons (tVar 1) tNil)))) (gAny K 2 (gCons (gName 5) (gCons (gName 6) (gNil))))) (tSeq (tIfS (tB (tDIn (tTup (tCons (tVar 5) (tCons (tVar 6) tNil))) (tVar 2))) (tNever) (tNext)) (sDPut (tVar 2) (tTup (tCons (tVar 5) (tCons (tVar 6) tNil))) (tC (.bl true)))))) (tRet (tCB (rTupA K) (tCons (tCB (rSortA K) (tCons (tCB (rListA K) (tCons (tVar 2) tNil)) tNil)) tNil))))
theorem ok_graph_edges {sp sp_checked_pair : Sp} (T : Tx K mg fa fn exB) (G_checked_pair : Good P w K mg base 2 (He.fAd K ("checked_pair", none)) ["u", "v", "nodes"] sp_checked_pair)
    (rd : ∀ vs H Q E, sp vs H Q E → t_graph_edges K sp_checked_pair { nx := fun _ H' => Q .non H', rt := Q } (L2.start ["edges", "nodes", "taken", "u", "v", "first", "second"] vs) H) (len : ∀ vs H Q E, sp vs H Q E → vs.length = 2) : Good P w K mg base 3 (He.fAd K ("graph_edges", none)) ["edges", "nodes"] sp :=
  T.good 10 d_graph_edges rfl rfl rfl (ps := ["edges", "nodes"]) (k := 2) sc_graph_edges (fun _ _ _ _ _ _ us hl => match us, hl with | [_, _], _ => rfl) len rd fun fd cdv A outer s H E hr =>
    (pss_cons (ps_set (i := 2) sc_graph_edges.nd rfl (by first | exact Or.inl rfl | exact Or.inr rfl) pe_dnewT) (pss_cons (ps_for PassesOwn.never rfl (pi_seq (pv 0)) (pg_any rfl (pgs_cons (pg_name (i := 3) sc_graph_edges.nd rfl (by first | exact Or.inl rfl | exact Or.inr rfl)) (pgs_cons (pg_name (i := 4) sc_graph_edges.nd rfl (by first | exact Or.inl rfl | exact Or.inr rfl)) pgs_nil))) (pss_cons (ps_asg (pe_callG G_checked_pair (hr.mono (by decide)) (by rfl) (T.glo 4) (pa_cons (pv 3) (pa_cons (pv 4) (pa_cons (pv 1) pa_nil)))) (pg_any rfl (pgs_cons (pg_name (i := 5) sc_graph_edges.nd rfl (by first | exact Or.inl rfl | exact Or.inr rfl)) (pgs_cons (pg_name (i := 6) sc_graph_edges.nd rfl (by first | exact Or.inl rfl | exact Or.inr rfl)) pgs_nil)))) (pss_cons (ps_if (pt_cmp (pc_din (hu_of hr) (pe_tup (pa_cons (pv 5) (pa_cons (pv 6) pa_nil))) (pv 2))) (pss_one ps_never) pss_nil) (pss_one (ps_dput (hu_of hr) (pv 2) (pe_tup (pa_cons (pv 5) (pa_cons (pv 6) pa_nil))) pe_bl rfl))))) (pss_one (ps_ret (pe_callTy dl_tuple (by rfl) (T.free 59) (by decide +kernel) (pa_cons (pe_callB dl_sorted (by rfl) (T.free 58) (by decide +kernel) (pa_cons (pe_callTy (dl_list rfl) (by rfl) (T.free 54) (by decide +kernel) (pa_cons (pv 2) pa_nil)) pa_nil)) pa_nil))))))
theorem sc_graph_near : FnScope ["edges", "nodes", "near", "u", "v", "_", "row"] ["edges", "nodes"] (defScope s_graph_near) := ⟨rfl, rfl, rfl, by decide +kernel, rfl, by decide +kernel, by decide +kernel⟩
def t_graph_near (K : PySem.W.Frag) : TS := tSeq (tAsg (tLc (iRng1 (tCons (tVar 1) tNil)) (gName 5) (tYes) (tLst (tNil)) [5]) (gName 2)) (tSeq (tFor (iSeq K (tVar 0)) (gAny K 2 (gCons (gName 3) (gCons (gName 4) (gNil)))) (tSeq (tDrop (tBM K "list" rAppend (tOp (rIxA K) (tVar 2) (tVar 3)) (tCons (tVar 4) tNil))) (tDrop (tBM K "list" rAppend (tOp (rIxA K) (tVar 2) (tVar 4)) (tCons (tVar 3) tNil))))) (tRet (tCB (rTupA K) (tCons (tLc (iSeq K (tVar 2)) (gName 6) (tYes) (tCB (rTupA K) (tCons (tVar 6) tNil)) [6]) tNil))))
theorem ok_graph_near {sp : Sp} (T : Tx K mg fa fn exB)
    (rd : ∀ vs H Q E, sp vs H Q E → t_graph_near K { nx := fun _ H' => Q .non H', rt := Q } (L2.start ["edges", "nodes", "near", "u", "v", "_", "row"] vs) H) (len : ∀ vs H Q E, sp vs H Q E → vs.length = 2) : Good P w K mg base 1 (He.fAd K ("graph_near", none)) ["edges", "nodes"] sp :=
  T.good 11 d_graph_near rfl rfl rfl (ps := ["edges", "nodes"]) (k := 0) sc_graph_near (fun _ _ _ _ _ _ us hl => match us, hl with | [_, _], _ => rfl) len rd fun fd cdv A outer s H E hr =>
    (pss_cons (ps_setLc (i := 2) (own := [("_", 5)]) rfl sc_graph_near.nd rfl rfl (sw_true rfl rfl rfl (by decide +kernel)) (pi_range1 (by rfl) (T.free 57) (pa_cons (pv 1) pa_nil)) (blkOk_by (N := ["edges", "nodes", "near", "u", "v", "_", "row"]) (sc := defScope s_graph_near) (by decide +kernel)) (fun _ _ _ _ _ => (pg_name (i := 5) sc_graph_near.nd rfl (by first | exact Or.inl rfl | exact Or.inr rfl))) (fun _ _ _ _ _ => pts_nil) (fun _ _ _ _ _ => (pe_lst pa_nil))) (pss_cons (ps_for PassesOwn.never rfl (pi_seq (pv 0)) (pg_any rfl (pgs_cons (pg_name (i := 3) sc_graph_near.nd rfl (by first | exact Or.inl rfl | exact Or.inr rfl)) (pgs_cons (pg_name (i := 4) sc_graph_near.nd rfl (by first | exact Or.inl rfl | exact Or.inr rfl)) pgs_nil))) (pss_cons (ps_expr (pe_bm PySem.F.plainAttrs_list PySem.F.slot_list_append PySem.F.type_list_append mt_append (pe_ix dl_ix (pv 2) (pv 3) (fun _ _ => rfl)) (pa_cons (pv 4) pa_nil))) (pss_one (ps_expr (pe_bm PySem.F.plainAttrs_list PySem.F.slot_list_append PySem.F.type_list_append mt_append (pe_ix dl_ix (pv 2) (pv 4) (fun _ _ => rfl)) (pa_cons (pv 3) pa_nil)))))) (pss_one (ps_ret (pe_callTy dl_tuple (by rfl) (T.free 59) (by decide +kernel) (pa_cons (pe_lc (own := [("row", 6)]) rfl sc_graph_near.nd (pi_seq (pv 2)) (blkOk_by (N := ["edges", "nodes", "near", "u", "v", "_", "row"]) (sc := defScope s_graph_near) (by decide +kernel)) (fun _ _ _ _ _ => (pg_name (i := 6) sc_graph_near.nd rfl (by first | exact Or.inl rfl | exact Or.inr rfl))) (fun _ _ _ _ _ => pts_nil) (fun _ _ _ _ _ => (pe_callTy dl_tuple (by rfl) (T.free 59) (by decide +kernel) (pa_cons (pv 6) pa_nil)))) pa_nil))))))
theorem sc_Graph___init__ : FnScope ["self", "nodes", "edges"] ["self", "nodes", "edges"] (defScope s_Graph___init__) := ⟨rfl, rfl, rfl, by decide +kernel, rfl, by decide +kernel, by decide +kernel⟩
def t_Graph___init__ (K : PySem.W.Frag) (sp_checked_number sp_graph_edges sp_graph_near : Sp) : TS := tSeq (sFld K (tVar 0) (tCall sp_checked_number [] E0 (tCons (tVar 1) (tCons (tC (.int 0)) (tCons (tC (.int (48))) tNil)))) "nodes") (tSeq (sFld K (tVar 0) (tCall sp_graph_edges [] E0 (tCons (tVar 2) (tCons (tVar 1) tNil))) "edges") (sFld K (tVar 0) (tCall sp_graph_near [] E0 (tCons (tFld K (tVar 0) "edges") (tCons (tVar 1) tNil))) "_near"))
theorem ok_Graph___init__ {sp sp_checked_number sp_graph_edges sp_graph_near : Sp} (T : Tx K mg fa fn exB) (G_checked_number : Good P w K mg base 1 (He.fAd K ("checked_number", none)) ["number", "low", "high"] sp_checked_number) (G_graph_edges : Good P w K mg base 3 (He.fAd K ("graph_edges", none)) ["edges", "nodes"] sp_graph_edges) (G_graph_near : Good P w K mg base 1 (He.fAd K ("graph_near", none)) ["edges", "nodes"] sp_graph_near)
    (rd : ∀ vs H Q E, sp vs H Q E → t_Graph___init__ K sp_checked_number sp_graph_edges sp_graph_near { nx := fun _ H' => Q .non H', rt := Q } (L2.start ["self", "nodes", "edges"] vs) H) (len : ∀ vs H Q E, sp vs H Q E → vs.length = 3) : Good P w K mg base 4 (He.fAd K ("Graph", some "__init__")) ["self", "nodes", "edges"] sp :=
  T.good 6 d_Graph___init__ rfl rfl rfl (ps := ["self", "nodes", "edges"]) (k := 3) sc_Graph___init__ (fun _ _ _ _ _ _ us hl => match us, hl with | [_, _, _], _ => rfl) len rd fun fd cdv A outer s H E hr =>
    (pss_cons (ps_fld (pv 0) (pe_callG G_checked_number (hr.mono (by decide)) (by rfl) (T.glo 0) (pa_cons (pv 1) (pa_cons pe_int (pa_cons (C8.pe_gc (by rfl) (T.int 60)) pa_nil)))) rfl) (pss_cons (ps_fld (pv 0) (pe_callG G_graph_edges (hr.mono (by decide)) (by rfl) (T.glo 6) (pa_cons (pv 2) (pa_cons (pv 1) pa_nil))) rfl) (pss_one (ps_fld (pv 0) (pe_callG G_graph_near (hr.mono (by decide)) (by rfl) (T.glo 7) (pa_cons (pe_fld (pv 0) rfl) (pa_cons (pv 1) pa_nil))) rfl))))
theorem sc_Graph_adjacent : FnScope ["self", "u", "v"] ["self", "u", "v"] (defScope s_Graph_adjacent) := ⟨rfl, rfl, rfl, by decide +kernel, rfl, by decide +kernel, by decide +kernel⟩
def t_Graph_adjacent (K : PySem.W.Frag) (sp_checked_node : Sp) : TS := tSeq (tDrop (tCall sp_checked_node [] E0 (tCons (tVar 1) (tCons (tFld K (tVar 0) "nodes") tNil)))) (tSeq (tDrop (tCall sp_checked_node [] E0 (tCons (tVar 2) (tCons (tFld K (tVar 0) "nodes") tNil)))) (tRet (tOp (rIn K false) (tVar 2) (tOp (rIxA K) (tFld K (tVar 0) "_near") (tVar 1)))))
theorem ok_Graph_adjacent {sp sp_checked_node : Sp} (T : Tx K mg fa fn exB) (G_checked_node : Good P w K mg base 1 (He.fAd K ("checked_node", none)) ["node", "nodes"] sp_checked_node)
    (rd : ∀ vs H Q E, sp vs H Q E → t_Graph_adjacent K sp_checked_node { nx := fun _ H' => Q .non H', rt := Q } (L2.start ["self", "u", "v"] vs) H) (len : ∀ vs H Q E, sp vs H Q E → vs.length = 3) : Good P w K mg base 2 (He.fAd K ("Graph", some "adjacent")) ["self", "u", "v"] sp :=
  T.good 7 d_Graph_adjacent rfl rfl rfl (ps := ["self", "u", "v"]) (k := 1) sc_Graph_adjacent (fun _ _ _ _ _ _ us hl => match us, hl with | [_, _, _], _ => rfl) len rd fun fd cdv A outer s H E hr =>
    (pss_cons (ps_expr (pe_callG G_checked_node (hr.mono (by decide)) (by rfl) (T.glo 3) (pa_cons (pv 1) (pa_cons (pe_fld (pv 0) rfl) pa_nil)))) (pss_cons (ps_expr (pe_callG G_checked_node (hr.mono (by decide)) (by rfl) (T.glo 3) (pa_cons (pv 2) (pa_cons (pe_fld (pv 0) rfl) pa_nil)))) (pss_one (ps_ret (pe_cmpR op_in_seq (pv 2) (pe_ix dl_ix (pe_fld (pv 0) rfl) (pv 1) (fun _ _ => rfl)) (by first | exact nomark _ | rfl))))))
theorem sc_Graph_degree : FnScope ["self", "v"] ["self", "v"] (defScope s_Graph_degree) := ⟨rfl, rfl, rfl, by decide +kernel, rfl, by decide +kernel, by decide +kernel⟩
def t_Graph_degree (K : PySem.W.Frag) (sp_checked_node : Sp) : TS := tSeq (tDrop (tCall sp_checked_node [] E0 (tCons (tVar 1) (tCons (tFld K (tVar 0) "nodes") tNil)))) (tRet (tCB (rLenA K) (tCons (tOp (rIxA K) (tFld K (tVar 0) "_near") (tVar 1)) tNil)))
theorem ok_Graph_degree {sp sp_checked_node : Sp} (T : Tx K mg fa fn exB) (G_checked_node : Good P w K mg base 1 (He.fAd K ("checked_node", none)) ["node", "nodes"] sp_checked_node)
    (rd : ∀ vs H Q E, sp vs H Q E → t_Graph_degree K sp_checked_node { nx := fun _ H' => Q .non H', rt := Q } (L2.start ["self", "v"] vs) H) (len : ∀ vs H Q E, sp vs H Q E → vs.length = 2) : Good P w K mg base 2 (He.fAd K ("Graph", some "degree")) ["self", "v"] sp :=
  T.good 8 d_Graph_degree rfl rfl rfl (ps := ["self", "v"]) (k := 1) sc_Graph_degree (fun _ _ _ _ _ _ us hl => match us, hl with | [_, _], _ => rfl) len rd fun fd cdv A outer s H E hr =>
    (pss_cons (ps_expr (pe_callG G_checked_node (hr.mono (by decide)) (by rfl) (T.glo 3) (pa_cons (pv 1) (pa_cons (pe_fld (pv 0) rfl) pa_nil)))) (pss_one (ps_ret (pe_callB dl_len (by rfl) (T.free 53) (by decide +kernel) (pa_cons (pe_ix dl_ix (pe_fld (pv 0) rfl) (pv 1) (fun _ _ => rfl)) pa_nil)))))
theorem sc_Graph_without_edge : FnScope ["self", "u", "v", "first", "second", "pair"] ["self", "u", "v"] (defScope s_Graph_without_edge) := ⟨rfl, rfl, rfl, by decide +kernel, rfl, by decide +kernel, by decide +kernel⟩
def t_Graph_without_edge (K : PySem.W.Frag) (sp_checked_pair sp_Graph___init__ : Sp) : TS := tSeq (tAsg (tCall sp_checked_pair [] E0 (tCons (tVar 1) (tCons (tVar 2) (tCons (tFld K (tVar 0) "nodes") tNil)))) (gAny K 2 (gCons (gName 3) (gCons (gName 4) (gNil))))) (tSeq (tIfS (tTest (tOp (rIn K true) (tVar 4) (tOp (rIxA K) (tFld K (tVar 0) "_near") (tVar 3)))) (tNever) (tNext)) (tRet (tMake (He.ga K "Graph") sp_Graph___init__ [] E0 (tCons (tFld K (tVar 0) "nodes") (tCons (tLc (iSeq K (tFld K (tVar 0) "edges")) (gName 5) (tTest (tOp (rNeD K) (tVar 5) (tTup (tCons (tVar 3) (tCons (tVar 4) tNil))))) (tVar 5) [5]) tNil)))))
theorem ok_Graph_without_edge {sp sp_checked_pair sp_Graph___init__ : Sp} (T : Tx K mg fa fn exB) (G_checked_pair : Good P w K mg base 2 (He.fAd K ("checked_pair", none)) ["u", "v", "nodes"] sp_checked_pair) (G_Graph___init__ : Good P w K mg base 4 (He.fAd K ("Graph", some "__init__")) ["self", "nodes", "edges"] sp_Graph___init__)
    (rd : ∀ vs H Q E, sp vs H Q E → t_Graph_without_edge K sp_checked_pair sp_Graph___init__ { nx := fun _ H' => Q .non H', rt := Q } (L2.start ["self", "u", "v", "first", "second", "pair"] vs) H) (len : ∀ vs H Q E, sp vs H Q E → vs.length = 3) : Good P w K mg base 6 (He.fAd K ("Graph", some "without_edge")) ["self", "u", "v"] sp :=
  T.good 9 d_Graph_without_edge rfl rfl rfl (ps := ["self", "u", "v"]) (k := 5) sc_Graph_without_edge (fun _ _ _ _ _ _ us hl => match us, hl with | [_, _, _], _ => rfl) len rd fun fd cdv A outer s H E hr =>
    (pss_cons (ps_asg (pe_callG G_checked_pair (hr.mono (by decide)) (by rfl) (T.glo 4) (pa_cons (pv 1) (pa_cons (pv 2) (pa_cons (pe_fld (pv 0) rfl) pa_nil)))) (pg_any rfl (pgs_cons (pg_name (i := 3) sc_Graph_without_edge.nd rfl (by first | exact Or.inl rfl | exact Or.inr rfl)) (pgs_cons (pg_name (i := 4) sc_Graph_without_edge.nd rfl (by first | exact Or.inl rfl | exact Or.inr rfl)) pgs_nil)))) (pss_cons (ps_if (pt_cmpR op_notIn_seq (pv 4) (pe_ix dl_ix (pe_fld (pv 0) rfl) (pv 3) (fun _ _ => rfl)) (by first | exact nomark _ | rfl)) (pss_one ps_never) pss_nil) (pss_one (ps_ret (pe_makeG (T.mkr 42) G_Graph___init__ (hr.mono (by decide)) (by rfl) (T.glo 40) (pa_cons (pe_fld (pv 0) rfl) (pa_cons (pe_lc (own := [("pair", 5)]) rfl sc_Graph_without_edge.nd (pi_seq (pe_fld (pv 0) rfl)) (blkOk_by (N := ["self", "u", "v", "first", "second", "pair"]) (sc := defScope s_Graph_without_edge) (by decide +kernel)) (fun _ _ _ _ _ => (pg_name (i := 5) sc_Graph_without_edge.nd rfl (by first | exact Or.inl rfl | exact Or.inr rfl))) (fun _ _ _ _ _ => (pts_one (pt_cmpR (op_neD hr.units) (pv 5) (pe_tup (pa_cons (pv 3) (pa_cons (pv 4) pa_nil))) (by first | exact nomark _ | rfl)))) (fun _ _ _ _ _ => (pv 5))) pa_nil)))))))
theorem sc_checked_moved : FnScope ["second", "node", "moved", "entries", "lot", "other"] ["second", "node", "moved"] (defScope s_checked_moved) := ⟨rfl, rfl, rfl, by decide +kernel, rfl, by decide +kernel, by decide +kernel⟩
def t_checked_moved (K : PySem.W.Frag) (sp_checked_node sp_checked_size sp_checked_lot sp_Graph_adjacent sp_Graph_degree : Sp) : TS := tSeq (tDrop (tCall sp_checked_node [] E0 (tCons (tVar 1) (tCons (tFld K (tVar 0) "nodes") tNil)))) (tSeq (tAsg (tCall sp_checked_size [] E0 (tCons (tVar 2) (tCons (tC (.int 1)) (tCons (tC .non) tNil)))) (gName 3)) (tSeq (tAsg (tCall sp_checked_lot [] E0 (tCons (tVar 3) (tCons (tFld K (tVar 0) "nodes") tNil))) (gName 4)) (tSeq (tFor (iSeq K (tVar 3)) (gName 5) (tIfS (tNot (tTru K (tMeth (He.ga K "Graph") "adjacent" sp_Graph_adjacent [] E0 (tVar 0) (tCons (tVar 1) (tCons (tVar 5) tNil))))) (tNever) (tNext))) (tSeq (tIfS (tTest (tOp (rEqD K) (tCB (rLenA K) (tCons (tVar 4) tNil)) (tMeth (He.ga K "Graph") "degree" sp_Graph_degree [] E0 (tVar 0) (tCons (tVar 1) tNil)))) (tNever) (tNext)) (tRet (tVar 4))))))
theorem ok_checked_moved {sp sp_checked_node sp_checked_size sp_checked_lot sp_Graph_adjacent sp_Graph_degree : Sp} (T : Tx K mg fa fn exB) (G_checked_node : Good P w K mg base 1 (He.fAd K ("checked_node", none)) ["node", "nodes"] sp_checked_node) (G_checked_size : Good P w K mg base 1 (He.fAd K ("checked_size", none)) ["entries", "low", "high"] sp_checked_size) (G_checked_lot : Good P w K mg base 2 (He.fAd K ("checked_lot", none)) ["entries", "nodes"] sp_checked_lot) (G_Graph_adjacent : Good P w K mg base 2 (He.fAd K ("Graph", some "adjacent")) ["self", "u", "v"] sp_Graph_adjacent) (G_Graph_degree : Good P w K mg base 2 (He.fAd K ("Graph", some "degree")) ["self", "v"] sp_Graph_degree)
    (rd : ∀ vs H Q E, sp vs H Q E → t_checked_moved K sp_checked_node sp_checked_size sp_checked_lot sp_Graph_adjacent sp_Graph_degree { nx := fun _ H' => Q .non H', rt := Q } (L2.start ["second", "node", "moved", "entries", "lot", "other"] vs) H) (len : ∀ vs H Q E, sp vs H Q E → vs.length = 3) : Good P w K mg base 3 (He.fAd K ("checked_moved", none)) ["second", "node", "moved"] sp :=
  T.good 15 d_checked_moved rfl rfl rfl (ps := ["second", "node", "moved"]) (k := 2) sc_checked_moved (fun _ _ _ _ _ _ us hl => match us, hl with | [_, _, _], _ => rfl) len rd fun fd cdv A outer s H E hr =>
    (pss_cons (ps_expr (pe_callG G_checked_node (hr.mono (by decide)) (by rfl) (T.glo 3) (pa_cons (pv 1) (pa_cons (pe_fld (pv 0) rfl) pa_nil)))) (pss_cons (ps_set (i := 3) sc_checked_moved.nd rfl (by first | exact Or.inl rfl | exact Or.inr rfl) (pe_callG G_checked_size (hr.mono (by decide)) (by rfl) (T.glo 2) (pa_cons (pv 2) (pa_cons pe_int (pa_cons pe_non pa_nil))))) (pss_cons (ps_set (i := 4) sc_checked_moved.nd rfl (by first | exact Or.inl rfl | exact Or.inr rfl) (pe_callG G_checked_lot (hr.mono (by decide)) (by rfl) (T.glo 5) (pa_cons (pv 3) (pa_cons (pe_fld (pv 0) rfl) pa_nil)))) (pss_cons (ps_for PassesOwn.never rfl (pi_seq (pv 3)) (pg_name (i := 5) sc_checked_moved.nd rfl (by first | exact Or.inl rfl | exact Or.inr rfl)) (pss_one (ps_if (pt_not (dl_truth (pe_methG (pv 0) (T.cls 41) (T.meth 46) G_Graph_adjacent (hr.mono (by decide)) (pa_cons (pv 1) (pa_cons (pv 5) pa_nil))))) (pss_one ps_never) pss_nil))) (pss_cons (ps_if (pt_cmpR (op_eqD hr.units) (pe_callB dl_len (by rfl) (T.free 53) (by decide +kernel) (pa_cons (pv 4) pa_nil)) (pe_methG (pv 0) (T.cls 41) (T.meth 47) G_Graph_degree (hr.mono (by decide)) (pa_cons (pv 1) pa_nil)) (by first | exact nomark _ | rfl)) (pss_one ps_never) pss_nil) (pss_one (ps_ret (pv 4))))))))
theorem sc_checked_fusing : FnScope ["first", "x", "y", "second", "node", "moved", "low", "high", "lot"] ["first", "x", "y", "second", "node", "moved"] (defScope s_checked_fusing) := ⟨rfl, rfl, rfl, by decide +kernel, rfl, by decide +kernel, by decide +kernel⟩
def t_checked_fusing (K : PySem.W.Frag) (sp_checked_pair sp_Graph_adjacent sp_checked_moved sp_checked_number : Sp) : TS := tSeq (tAsg (tCall sp_checked_pair [] E0 (tCons (tVar 1) (tCons (tVar 2) (tCons (tFld K (tVar 0) "nodes") tNil)))) (gAny K 2 (gCons (gName 6) (gCons (gName 7) (gNil))))) (tSeq (tIfS (tNot (tTru K (tMeth (He.ga K "Graph") "adjacent" sp_Graph_adjacent [] E0 (tVar 0) (tCons (tVar 6) (tCons (tVar 7) tNil))))) (tNever) (tNext)) (tSeq (tAsg (tCall sp_checked_moved [] E0 (tCons (tVar 3) (tCons (tVar 4) (tCons (tVar 5) tNil)))) (gName 8)) (tRet (tTup (tCons (tCall sp_checked_number [] E0 (tCons (tOp (rI0 fun i j => .int (i - j)) (tOp rAddA (tFld K (tVar 0) "nodes") (tFld K (tVar 3) "nodes")) (tC (.int 1))) (tCons (tC (.int 0)) (tCons (tC (.int (48))) tNil)))) (tCons (tVar 8) tNil))))))
theorem ok_checked_fusing {sp sp_checked_pair sp_Graph_adjacent sp_checked_moved sp_checked_number : Sp} (T : Tx K mg fa fn exB) (G_checked_pair : Good P w K mg base 2 (He.fAd K ("checked_pair", none)) ["u", "v", "nodes"] sp_checked_pair) (G_Graph_adjacent : Good P w K mg base 2 (He.fAd K ("Graph", some "adjacent")) ["self", "u", "v"] sp_Graph_adjacent) (G_checked_moved : Good P w K mg base 3 (He.fAd K ("checked_moved", none)) ["second", "node", "moved"] sp_checked_moved) (G_checked_number : Good P w K mg base 1 (He.fAd K ("checked_number", none)) ["number", "low", "high"] sp_checked_number)
    (rd : ∀ vs H Q E, sp vs H Q E → t_checked_fusing K sp_checked_pair sp_Graph_adjacent sp_checked_moved sp_checked_number { nx := fun _ H' => Q .non H', rt := Q } (L2.start ["first", "x", "y", "second", "node", "moved", "low", "high", "lot"] vs) H) (len : ∀ vs H Q E, sp vs H Q E → vs.length = 6) : Good P w K mg base 4 (He.fAd K ("checked_fusing", none)) ["first", "x", "y", "second", "node", "moved"] sp :=
  T.good 14 d_checked_fusing rfl rfl rfl (ps := ["first", "x", "y", "second", "node", "moved"]) (k := 3) sc_checked_fusing (fun _ _ _ _ _ _ us hl => match us, hl with | [_, _, _, _, _, _], _ => rfl) len rd fun fd cdv A outer s H E hr =>
    (pss_cons (ps_asg (pe_callG G_checked_pair (hr.mono (by decide)) (by rfl) (T.glo 4) (pa_cons (pv 1) (pa_cons (pv 2) (pa_cons (pe_fld (pv 0) rfl) pa_nil)))) (pg_any rfl (pgs_cons (pg_name (i := 6) sc_checked_fusing.nd rfl (by first | exact Or.inl rfl | exact Or.inr rfl)) (pgs_cons (pg_name (i := 7) sc_checked_fusing.nd rfl (by first | exact Or.inl rfl | exact Or.inr rfl)) pgs_nil)))) (pss_cons (ps_if (pt_not (dl_truth (pe_methG (pv 0) (T.cls 41) (T.meth 46) G_Graph_adjacent (hr.mono (by decide)) (pa_cons (pv 6) (pa_cons (pv 7) pa_nil))))) (pss_one ps_never) pss_nil) (pss_cons (ps_set (i := 8) sc_checked_fusing.nd rfl (by first | exact Or.inl rfl | exact Or.inr rfl) (pe_callG G_checked_moved (hr.mono (by decide)) (by rfl) (T.glo 11) (pa_cons (pv 3) (pa_cons (pv 4) (pa_cons (pv 5) pa_nil))))) (pss_one (ps_ret (pe_tup (pa_cons (pe_callG G_checked_number (hr.mono (by decide)) (by rfl) (T.glo 0) (pa_cons (pe_op op_sub (pe_op dl_add (pe_fld (pv 0) rfl) (pe_fld (pv 3) rfl)) pe_int) (pa_cons pe_int (pa_cons (C8.pe_gc (by rfl) (T.int 60)) pa_nil)))) (pa_cons (pv 8) pa_nil))))))))
theorem sc_images_behind : FnScope ["first", "x", "second", "node", "images", "other"] ["first", "x", "second", "node"] (defScope s_images_behind) := ⟨rfl, rfl, rfl, by decide +kernel, rfl, by decide +kernel, by decide +kernel⟩
def t_images_behind (K : PySem.W.Frag) : TS := tSeq (tAsg (tLst (tNil)) (gName 4)) (tSeq (tFor (iRng1 (tCons (tFld K (tVar 2) "nodes") tNil)) (gName 5) (tIfS (tTest (tOp (rI0 fun i j => .bl (decide (i < j))) (tVar 5) (tVar 3))) (tDrop (tBM K "list" rAppend (tVar 4) (tCons (tOp rAddA (tFld K (tVar 0) "nodes") (tVar 5)) tNil))) (tIfS (tTest (tOp (rEqD K) (tVar 5) (tVar 3))) (tDrop (tBM K "list" rAppend (tVar 4) (tCons (tVar 1) tNil))) (tDrop (tBM K "list" rAppend (tVar 4) (tCons (tOp (rI0 fun i j => .int (i - j)) (tOp rAddA (tFld K (tVar 0) "nodes") (tVar 5)) (tC (.int 1))) tNil)))))) (tRet (tVar 4)))
theorem ok_images_behind {sp : Sp} (T : Tx K mg fa fn exB)
    (rd : ∀ vs H Q E, sp vs H Q E → t_images_behind K { nx := fun _ H' => Q .non H', rt := Q } (L2.start ["first", "x", "second", "node", "images", "other"] vs) H) (len : ∀ vs H Q E, sp vs H Q E → vs.length = 4) : Good P w K mg base 1 (He.fAd K ("images_behind", none)) ["first", "x", "second", "node"] sp :=
  T.good 16 d_images_behind rfl rfl rfl (ps := ["first", "x", "second", "node"]) (k := 0) sc_images_behind (fun _ _ _ _ _ _ us hl => match us, hl with | [_, _, _, _], _ => rfl) len rd fun fd cdv A outer s H E hr =>
    (pss_cons (ps_set (i := 4) sc_images_behind.nd rfl (by first | exact Or.inl rfl | exact Or.inr rfl) (pe_lst pa_nil)) (pss_cons (ps_for PassesOwn.never rfl (pi_range1 (by rfl) (T.free 57) (pa_cons (pe_fld (pv 2) rfl) pa_nil)) (pg_name (i := 5) sc_images_behind.nd rfl (by first | exact Or.inl rfl | exact Or.inr rfl)) (pss_one (ps_if (pt_cmpR op_lt (pv 5) (pv 3) (by first | exact nomark _ | rfl)) (pss_one (ps_expr (pe_bm PySem.F.plainAttrs_list PySem.F.slot_list_append PySem.F.type_list_append mt_append (pv 4) (pa_cons (pe_op dl_add (pe_fld (pv 0) rfl) (pv 5)) pa_nil)))) (pss_one (ps_if (pt_cmpR (op_eqD hr.units) (pv 5) (pv 3) (by first | exact nomark _ | rfl)) (pss_one (ps_expr (pe_bm PySem.F.plainAttrs_list PySem.F.slot_list_append PySem.F.type_list_append mt_append (pv 4) (pa_cons (pv 1) pa_nil)))) (pss_one (ps_expr (pe_bm PySem.F.plainAttrs_list PySem.F.slot_list_append PySem.F.type_list_append mt_append (pv 4) (pa_cons (pe_op op_sub (pe_op dl_add (pe_fld (pv 0) rfl) (pv 5)) pe_int) pa_nil))))))))) (pss_one (ps_ret (pv 4)))))
theorem sc_divided_edges : FnScope ["second", "node", "lot", "images", "new", "edges", "u", "v"] ["second", "node", "lot", "images", "new"] (defScope s_divided_edges) := ⟨rfl, rfl, rfl, by decide +kernel, rfl, by decide +kernel, by decide +kernel⟩
def t_divided_edges (K : PySem.W.Frag) : TS := tSeq (tAsg (tLst (tNil)) (gName 5)) (tSeq (tFor (iSeq K (tFld K (tVar 0) "edges")) (gAny K 2 (gCons (gName 6) (gCons (gName 7) (gNil)))) (tIfS (tAnd (tTest (tOp (rEqD K) (tVar 6) (tVar 1))) (tTest (tOp (rIn K false) (tVar 7) (tVar 2)))) (tDrop (tBM K "list" rAppend (tVar 5) (tCons (tTup (tCons (tVar 4) (tCons (tOp (rIxA K) (tVar 3) (tVar 7)) tNil))) tNil))) (tIfS (tAnd (tTest (tOp (rEqD K) (tVar 7) (tVar 1))) (tTest (tOp (rIn K false) (tVar 6) (tVar 2)))) (tDrop (tBM K "list" rAppend (tVar 5) (tCons (tTup (tCons (tVar 4) (tCons (tOp (rIxA K) (tVar 3) (tVar 6)) tNil))) tNil))) (tDrop (tBM K "list" rAppend (tVar 5) (tCons (tTup (tCons (tOp (rIxA K) (tVar 3) (tVar 6)) (tCons (tOp (rIxA K) (tVar 3) (tVar 7)) tNil))) tNil)))))) (tRet (tVar 5)))
theorem ok_divided_edges {sp : Sp} (T : Tx K mg fa fn exB)
    (rd : ∀ vs H Q E, sp vs H Q E → t_divided_edges K { nx := fun _ H' => Q .non H', rt := Q } (L2.start ["second", "node", "lot", "images", "new", "edges", "u", "v"] vs) H) (len : ∀ vs H Q E, sp vs H Q E → vs.length = 5) : Good P w K mg base 1 (He.fAd K ("divided_edges", none)) ["second", "node", "lot", "images", "new"] sp :=
  T.good 17 d_divided_edges rfl rfl rfl (ps := ["second", "node", "lot", "images", "new"]) (k := 0) sc_divided_edges (fun _ _ _ _ _ _ us hl => match us, hl with | [_, _, _, _, _], _ => rfl) len rd fun fd cdv A outer s H E hr =>
    (pss_cons (ps_set (i := 5) sc_divided_edges.nd rfl (by first | exact Or.inl rfl | exact Or.inr rfl) (pe_lst pa_nil)) (pss_cons (ps_for PassesOwn.never rfl (pi_seq (pe_fld (pv 0) rfl)) (pg_any rfl (pgs_cons (pg_name (i := 6) sc_divided_edges.nd rfl (by first | exact Or.inl rfl | exact Or.inr rfl)) (pgs_cons (pg_name (i := 7) sc_divided_edges.nd rfl (by first | exact Or.inl rfl | exact Or.inr rfl)) pgs_nil))) (pss_one (ps_if (PW.pt (pw_and (pt_cmpR (op_eqD hr.units) (pv 6) (pv 1) (by first | exact nomark _ | rfl)) (pw_and1 (pt_cmpR op_in_seq (pv 7) (pv 2) (by first | exact nomark _ | rfl))))) (pss_one (ps_expr (pe_bm PySem.F.plainAttrs_list PySem.F.slot_list_append PySem.F.type_list_append mt_append (pv 5) (pa_cons (pe_tup (pa_cons (pv 4) (pa_cons (pe_ix dl_ix (pv 3) (pv 7) (fun _ _ => rfl)) pa_nil))) pa_nil)))) (pss_one (ps_if (PW.pt (pw_and (pt_cmpR (op_eqD hr.units) (pv 7) (pv 1) (by first | exact nomark _ | rfl)) (pw_and1 (pt_cmpR op_in_seq (pv 6) (pv 2) (by first | exact nomark _ | rfl))))) (pss_one (ps_expr (pe_bm PySem.F.plainAttrs_list PySem.F.slot_list_append PySem.F.type_list_append mt_append (pv 5) (pa_cons (pe_tup (pa_cons (pv 4) (pa_cons (pe_ix dl_ix (pv 3) (pv 6) (fun _ _ => rfl)) pa_nil))) pa_nil)))) (pss_one (ps_expr (pe_bm PySem.F.plainAttrs_list PySem.F.slot_list_append PySem.F.type_list_append mt_append (pv 5) (pa_cons (pe_tup (pa_cons (pe_ix dl_ix (pv 3) (pv 6) (fun _ _ => rfl)) (pa_cons (pe_ix dl_ix (pv 3) (pv 7) (fun _ _ => rfl)) pa_nil))) pa_nil))))))))) (pss_one (ps_ret (pv 5)))))
theorem sc_fused : FnScope ["first", "x", "y", "second", "node", "moved", "count", "lot", "images", "edges"] ["first", "x", "y", "second", "node", "moved"] (defScope s_fused) := ⟨rfl, rfl, rfl, by decide +kernel, rfl, by decide +kernel, by decide +kernel⟩
def t_fused (K : PySem.W.Frag) (sp_checked_fusing sp_images_behind sp_Graph_without_edge sp_divided_edges sp_Graph___init__ : Sp) : TS := tSeq (tAsg (tCall sp_checked_fusing [] E0 (tCons (tVar 0) (tCons (tVar 1) (tCons (tVar 2) (tCons (tVar 3) (tCons (tVar 4) (tCons (tVar 5) tNil))))))) (gAny K 2 (gCons (gName 6) (gCons (gName 7) (gNil))))) (tSeq (tAsg (tCall sp_images_behind [] E0 (tCons (tVar 0) (tCons (tVar 1) (tCons (tVar 3) (tCons (tVar 4) tNil))))) (gName 8)) (tSeq (tAsg (tOp rAddA (tCB (rListA K) (tCons (tFld K (tMeth (He.ga K "Graph") "without_edge" sp_Graph_without_edge [] E0 (tVar 0) (tCons (tVar 1) (tCons (tVar 2) tNil))) "edges") tNil)) (tCall sp_divided_edges [] E0 (tCons (tVar 3) (tCons (tVar 4) (tCons (tVar 7) (tCons (tVar 8) (tCons (tVar 2) tNil))))))) (gName 9)) (tRet (tMake (He.ga K "Graph") sp_Graph___init__ [] E0 (tCons (tVar 6) (tCons (tVar 9) tNil))))))
theorem ok_fused {sp sp_checked_fusing sp_images_behind sp_Graph_without_edge sp_divided_edges sp_Graph___init__ : Sp} (T : Tx K mg fa fn exB) (G_checked_fusing : Good P w K mg base 4 (He.fAd K ("checked_fusing", none)) ["first", "x", "y", "second", "node", "moved"] sp_checked_fusing) (G_images_behind : Good P w K mg base 1 (He.fAd K ("images_behind", none)) ["first", "x", "second", "node"] sp_images_behind) (G_Graph_without_edge : Good P w K mg base 6 (He.fAd K ("Graph", some "without_edge")) ["self", "u", "v"] sp_Graph_without_edge) (G_divided_edges : Good P w K mg base 1 (He.fAd K ("divided_edges", none)) ["second", "node", "lot", "images", "new"] sp_divided_edges) (G_Graph___init__ : Good P w K mg base 4 (He.fAd K ("Graph", some "__init__")) ["self", "nodes", "edges"] sp_Graph___init__)
    (rd : ∀ vs H Q E, sp vs H Q E → t_fused K sp_checked_fusing sp_images_behind sp_Graph_without_edge sp_divided_edges sp_Graph___init__ { nx := fun _ H' => Q .non H', rt := Q } (L2.start ["first", "x", "y", "second", "node", "moved", "count", "lot", "images", "edges"] vs) H) (len : ∀ vs H Q E, sp vs H Q E → vs.length = 6) : Good P w K mg base 7 (He.fAd K ("fused", none)) ["first", "x", "y", "second", "node", "moved"] sp :=
  T.good 12 d_fused rfl rfl rfl (ps := ["first", "x", "y", "second", "node", "moved"]) (k := 6) sc_fused (fun _ _ _ _ _ _ us hl => match us, hl with | [_, _, _, _, _, _], _ => rfl) len rd fun fd cdv A outer s H E hr =>
    (pss_cons (ps_asg (pe_callG G_checked_fusing (hr.mono (by decide)) (by rfl) (T.glo 10) (pa_cons (pv 0) (pa_cons (pv 1) (pa_cons (pv 2) (pa_cons (pv 3) (pa_cons (pv 4) (pa_cons (pv 5) pa_nil))))))) (pg_any rfl (pgs_cons (pg_name (i := 6) sc_fused.nd rfl (by first | exact Or.inl rfl | exact Or.inr rfl)) (pgs_cons (pg_name (i := 7) sc_fused.nd rfl (by first | exact Or.inl rfl | exact Or.inr rfl)) pgs_nil)))) (pss_cons (ps_set (i := 8) sc_fused.nd rfl (by first | exact Or.inl rfl | exact Or.inr rfl) (pe_callG G_images_behind (hr.mono (by decide)) (by rfl) (T.glo 12) (pa_cons (pv 0) (pa_cons (pv 1) (pa_cons (pv 3) (pa_cons (pv 4) pa_nil)))))) (pss_cons (ps_set (i := 9) sc_fused.nd rfl (by first | exact Or.inl rfl | exact Or.inr rfl) (pe_op dl_add (pe_callTy (dl_list rfl) (by rfl) (T.free 54) (by decide +kernel) (pa_cons (pe_fld (pe_methG (pv 0) (T.cls 41) (T.meth 48) G_Graph_without_edge (hr.mono (by decide)) (pa_cons (pv 1) (pa_cons (pv 2) pa_nil))) rfl) pa_nil)) (pe_callG G_divided_edges (hr.mono (by decide)) (by rfl) (T.glo 13) (pa_cons (pv 3) (pa_cons (pv 4) (pa_cons (pv 7) (pa_cons (pv 8) (pa_cons (pv 2) pa_nil)))))))) (pss_one (ps_ret (pe_makeG (T.mkr 42) G_Graph___init__ (hr.mono (by decide)) (by rfl) (T.glo 40) (pa_cons (pv 6) (pa_cons (pv 9) pa_nil))))))))
theorem sc_divided : FnScope ["second", "node", "moved", "lot", "count"] ["second", "node", "moved"] (defScope s_divided) := ⟨rfl, rfl, rfl, by decide +kernel, rfl, by decide +kernel, by decide +kernel⟩
def t_divided (K : PySem.W.Frag) (sp_checked_moved sp_checked_number sp_Graph___init__ sp_divided_edges : Sp) : TS := tSeq (tAsg (tCall sp_checked_moved [] E0 (tCons (tVar 0) (tCons (tVar 1) (tCons (tVar 2) tNil)))) (gName 3)) (tSeq (tAsg (tCall sp_checked_number [] E0 (tCons (tOp rAddA (tFld K (tVar 0) "nodes") (tC (.int 1))) (tCons (tC (.int 0)) (tCons (tC (.int (48))) tNil)))) (gName 4)) (tRet (tMake (He.ga K "Graph") sp_Graph___init__ [] E0 (tCons (tVar 4) (tCons (tCall sp_divided_edges [] E0 (tCons (tVar 0) (tCons (tVar 1) (tCons (tVar 3) (tCons (tLstRg (tRg1 (tFld K (tVar 0) "nodes"))) (tCons (tFld K (tVar 0) "nodes") tNil)))))) tNil)))))
theorem ok_divided {sp sp_checked_moved sp_checked_number sp_Graph___init__ sp_divided_edges : Sp} (T : Tx K mg fa fn exB) (G_checked_moved : Good P w K mg base 3 (He.fAd K ("checked_moved", none)) ["second", "node", "moved"] sp_checked_moved) (G_checked_number : Good P w K mg base 1 (He.fAd K ("checked_number", none)) ["number", "low", "high"] sp_checked_number) (G_Graph___init__ : Good P w K mg base 4 (He.fAd K ("Graph", some "__init__")) ["self", "nodes", "edges"] sp_Graph___init__) (G_divided_edges : Good P w K mg base 1 (He.fAd K ("divided_edges", none)) ["second", "node", "lot", "images", "new"] sp_divided_edges)
    (rd : ∀ vs H Q E, sp vs H Q E → t_divided K sp_checked_moved sp_checked_number sp_Graph___init__ sp_divided_edges { nx := fun _ H' => Q .non H', rt := Q } (L2.start ["second", "node", "moved", "lot", "count"] vs) H) (len : ∀ vs H Q E, sp vs H Q E → vs.length = 3) : Good P w K mg base 6 (He.fAd K ("divided", none)) ["second", "node", "moved"] sp :=
  T.good 13 d_divided rfl rfl rfl (ps := ["second", "node", "moved"]) (k := 5) sc_divided (fun _ _ _ _ _ _ us hl => match us, hl with | [_, _, _], _ => rfl) len rd fun fd cdv A outer s H E hr =>
    (pss_cons (ps_set (i := 3) sc_divided.nd rfl (by first | exact Or.inl rfl | exact Or.inr rfl) (pe_callG G_checked_moved (hr.mono (by decide)) (by rfl) (T.glo 11) (pa_cons (pv 0) (pa_cons (pv 1) (pa_cons (pv 2) pa_nil))))) (pss_cons (ps_set (i := 4) sc_divided.nd rfl (by first | exact Or.inl rfl | exact Or.inr rfl) (pe_callG G_checked_number (hr.mono (by decide)) (by rfl) (T.glo 0) (pa_cons (pe_op dl_add (pe_fld (pv 0) rfl) pe_int) (pa_cons pe_int (pa_cons (C8.pe_gc (by rfl) (T.int 60)) pa_nil))))) (pss_one (ps_ret (pe_makeG (T.mkr 42) G_Graph___init__ (hr.mono (by decide)) (by rfl) (T.glo 40) (pa_cons (pv 4) (pa_cons (pe_callG G_divided_edges (hr.mono (by decide)) (by rfl) (T.glo 13) (pa_cons (pv 0) (pa_cons (pv 1) (pa_cons (pv 3) (pa_cons (pe_listRg rfl (by rfl) (T.free 54) (prg_1 (by rfl) (T.free 57) (pe_fld (pv 0) rfl))) (pa_cons (pe_fld (pv 0) rfl) pa_nil)))))) pa_nil)))))))
theorem sc__lower_neighbours : FnScope ["graph", "lower", "u", "v", "_"] ["graph"] (defScope s__lower_neighbours) := ⟨rfl, rfl, rfl, by decide +kernel, rfl, by decide +kernel, by decide +kernel⟩
def t__lower_neighbours (K : PySem.W.Frag) : TS := tSeq (tAsg (tLc (iRng1 (tCons (tFld K (tVar 0) "nodes") tNil)) (gName 4) (tYes) (tLst (tNil)) [4]) (gName 1)) (tSeq (tFor (iSeq K (tFld K (tVar 0) "edges")) (gAny K 2 (gCons (gName 2) (gCons (gName 3) (gNil)))) (tDrop (tBM K "list" rAppend (tOp (rIxA K) (tVar 1) (tVar 3)) (tCons (tVar 2) tNil)))) (tRet (tVar 1)))
theorem ok__lower_neighbours {sp : Sp} (T : Tx K mg fa fn exB)
    (rd : ∀ vs H Q E, sp vs H Q E → t__lower_neighbours K { nx := fun _ H' => Q .non H', rt := Q } (L2.start ["graph", "lower", "u", "v", "_"] vs) H) (len : ∀ vs H Q E, sp vs H Q E → vs.length = 1) : Good P w K mg base 1 (He.fAd K ("_lower_neighbours", none)) ["graph"] sp :=
  T.good 18 d__lower_neighbours rfl rfl rfl (ps := ["graph"]) (k := 0) sc__lower_neighbours (fun _ _ _ _ _ _ us hl => match us, hl with | [_], _ => rfl) len rd fun fd cdv A outer s H E hr =>
    (pss_cons (ps_setLc (i := 1) (own := [("_", 4)]) rfl sc__lower_neighbours.nd rfl rfl (sw_true rfl rfl rfl (by decide +kernel)) (pi_range1 (by rfl) (T.free 57) (pa_cons (pe_fld (pv 0) rfl) pa_nil)) (blkOk_by (N := ["graph", "lower", "u", "v", "_"]) (sc := defScope s__lower_neighbours) (by decide +kernel)) (fun _ _ _ _ _ => (pg_name (i := 4) sc__lower_neighbours.nd rfl (by first | exact Or.inl rfl | exact Or.inr rfl))) (fun _ _ _ _ _ => pts_nil) (fun _ _ _ _ _ => (pe_lst pa_nil))) (pss_cons (ps_for PassesOwn.never rfl (pi_seq (pe_fld (pv 0) rfl)) (pg_any rfl (pgs_cons (pg_name (i := 2) sc__lower_neighbours.nd rfl (by first | exact Or.inl rfl | exact Or.inr rfl)) (pgs_cons (pg_name (i := 3) sc__lower_neighbours.nd rfl (by first | exact Or.inl rfl | exact Or.inr rfl)) pgs_nil))) (pss_one (ps_expr (pe_bm PySem.F.plainAttrs_list PySem.F.slot_list_append PySem.F.type_list_append mt_append (pe_ix dl_ix (pv 1) (pv 3) (fun _ _ => rfl)) (pa_cons (pv 2) pa_nil))))) (pss_one (ps_ret (pv 1)))))
theorem sc__least_free : FnScope ["entries", "lower", "start", "end", "taken", "colour", "u"] ["entries", "lower", "start", "end"] (defScope s__least_free) := ⟨rfl, rfl, rfl, by decide +kernel, rfl, by decide +kernel, by decide +kernel⟩
def t__least_free (K : PySem.W.Frag) : TS := tSeq (tAsg (tLc (iSeq K (tVar 1)) (gName 6) (tYes) (tOp (rIxA K) (tVar 0) (tVar 6)) [6]) (gName 4)) (tSeq (tFor (iRng2 (tCons (tVar 2) (tCons (tVar 3) tNil))) (gName 5) (tIfS (tTest (tOp (rIn K true) (tVar 5) (tVar 4))) (tRet (tVar 5)) (tNext))) (tRet (tC .non)))
theorem ok__least_free {sp : Sp} (T : Tx K mg fa fn exB)
    (rd : ∀ vs H Q E, sp vs H Q E → t__least_free K { nx := fun _ H' => Q .non H', rt := Q } (L2.start ["entries", "lower", "start", "end", "taken", "colour", "u"] vs) H) (len : ∀ vs H Q E, sp vs H Q E → vs.length = 4) : Good P w K mg base 1 (He.fAd K ("_least_free", none)) ["entries", "lower", "start", "end"] sp :=
  T.good 19 d__least_free rfl rfl rfl (ps := ["entries", "lower", "start", "end"]) (k := 0) sc__least_free (fun _ _ _ _ _ _ us hl => match us, hl with | [_, _, _, _], _ => rfl) len rd fun fd cdv A outer s H E hr =>
    (pss_cons (ps_setLc (i := 4) (own := [("u", 6)]) rfl sc__least_free.nd rfl rfl (sw_true rfl rfl rfl (by decide +kernel)) (pi_seq (pv 1)) (blkOk_by (N := ["entries", "lower", "start", "end", "taken", "colour", "u"]) (sc := defScope s__least_free) (by decide +kernel)) (fun _ _ _ _ _ => (pg_name (i := 6) sc__least_free.nd rfl (by first | exact Or.inl rfl | exact Or.inr rfl))) (fun _ _ _ _ _ => pts_nil) (fun _ _ _ _ _ => (pe_ix dl_ix (pv 0) (pv 6) (fun _ _ => rfl)))) (pss_cons (ps_for PassesOwn.never rfl (pi_range2 (by rfl) (T.free 57) (pa_cons (pv 2) (pa_cons (pv 3) pa_nil))) (pg_name (i := 5) sc__least_free.nd rfl (by first | exact Or.inl rfl | exact Or.inr rfl)) (pss_one (ps_if (pt_cmpR op_notIn_seq (pv 5) (pv 4) (by first | exact nomark _ | rfl)) (pss_one (ps_ret (pv 5))) pss_nil))) (pss_one (ps_ret pe_non))))
theorem sc__visited : FnScope ["graph", "k", "limit", "whole", "lower", "entries", "used", "start", "count", "found", "colour", "end"] ["graph", "k", "limit", "whole"] (defScope s__visited) := ⟨rfl, rfl, rfl, by decide +kernel, rfl, by decide +kernel, by decide +kernel⟩
def t__visited (K : PySem.W.Frag) (sp__lower_neighbours sp__least_free : Sp) : TS := tSeq (tAsg (tCall sp__lower_neighbours [] E0 (tCons (tVar 0) tNil)) (gName 4)) (tSeq (tAsg (tLst (tNil)) (gName 5)) (tSeq (tAsg (tLst (tCons (tC (.int 0)) tNil)) (gName 6)) (tSeq (tAsg (tC (.int 0)) (gName 7)) (tSeq (tAsg (tC (.int 1)) (gName 8)) (tSeq (tAsg (tLst (tNil)) (gName 9)) (tWhile (tB (tC (.bl true))) (tSeq (tAsg (tC .non) (gName 10)) (tSeq (tIfS (tTest (tOp (rEqD K) (tCB (rLenA K) (tCons (tVar 5) tNil)) (tFld K (tVar 0) "nodes"))) (tSeq (tDrop (tBM K "list" rAppend (tVar 9) (tCons (tCB (rTupA K) (tCons (tVar 5) tNil)) tNil))) (tIfS (tNot (tTru K (tVar 3))) (tRet (tTup (tCons (tVar 8) (tCons (tVar 9) tNil)))) (tNext))) (tSeq (tAsg (tCB rMin2A (tCons (tOp rAddA (tOp (rIxA K) (tVar 6) (tUn (rU fun i => .int (-i)) (tC (.int 1)))) (tC (.int 1))) (tCons (tVar 1) tNil))) (gName 11)) (tAsg (tCall sp__least_free [] E0 (tCons (tVar 5) (tCons (tOp (rIxA K) (tVar 4) (tCB (rLenA K) (tCons (tVar 5) tNil))) (tCons (tVar 7) (tCons (tVar 11) tNil))))) (gName 10)))) (tIfS (tTest (tOp rNotNA (tVar 10) (tC .non))) (tSeq (tAug 8 (tC (.int 1)) (ipI fun i j => i + j)) (tSeq (tIfS (tTest (tOp (rI0 fun i j => .bl (decide (j < i))) (tVar 8) (tVar 2))) (tNever) (tNext)) (tSeq (tDrop (tBM K "list" rAppend (tVar 5) (tCons (tVar 10) tNil))) (tSeq (tDrop (tBM K "list" rAppend (tVar 6) (tCons (tCB rMax2A (tCons (tOp (rIxA K) (tVar 6) (tUn (rU fun i => .int (-i)) (tC (.int 1)))) (tCons (tOp rAddA (tVar 10) (tC (.int 1))) tNil))) tNil))) (tAsg (tC (.int 0)) (gName 7)))))) (tIfS (tTru K (tVar 5)) (tSeq (tAsg (tOp rAddA (tBM0 K "list" rPop (tVar 5)) (tC (.int 1))) (gName 7)) (tDrop (tBM0 K "list" rPop (tVar 6)))) (tRet (tTup (tCons (tVar 8) (tCons (tVar 9) tNil))))))))))))))
theorem ok__visited {sp sp__lower_neighbours sp__least_free : Sp} (T : Tx K mg fa fn exB) (G__lower_neighbours : Good P w K mg base 1 (He.fAd K ("_lower_neighbours", none)) ["graph"] sp__lower_neighbours) (G__least_free : Good P w K mg base 1 (He.fAd K ("_least_free", none)) ["entries", "lower", "start", "end"] sp__least_free)
    (rd : ∀ vs H Q E, sp vs H Q E → t__visited K sp__lower_neighbours sp__least_free { nx := fun _ H' => Q .non H', rt := Q } (L2.start ["graph", "k", "limit", "whole", "lower", "entries", "used", "start", "count", "found", "colour", "end"] vs) H) (len : ∀ vs H Q E, sp vs H Q E → vs.length = 4) : Good P w K mg base 2 (He.fAd K ("_visited", none)) ["graph", "k", "limit", "whole"] sp :=
  T.good 20 d__visited rfl rfl rfl (ps := ["graph", "k", "limit", "whole"]) (k := 1) sc__visited (fun _ _ _ _ _ _ us hl => match us, hl with | [_, _, _, _], _ => rfl) len rd fun fd cdv A outer s H E hr =>
    (pss_cons (ps_set (i := 4) sc__visited.nd rfl (by first | exact Or.inl rfl | exact Or.inr rfl) (pe_callG G__lower_neighbours (hr.mono (by decide)) (by rfl) (T.glo 14) (pa_cons (pv 0) pa_nil))) (pss_cons (ps_set (i := 5) sc__visited.nd rfl (by first | exact Or.inl rfl | exact Or.inr rfl) (pe_lst pa_nil)) (pss_cons (ps_set (i := 6) sc__visited.nd rfl (by first | exact Or.inl rfl | exact Or.inr rfl) (pe_lst (pa_cons pe_int pa_nil))) (pss_cons (ps_set (i := 7) sc__visited.nd rfl (by first | exact Or.inl rfl | exact Or.inr rfl) pe_int) (pss_cons (ps_set (i := 8) sc__visited.nd rfl (by first | exact Or.inl rfl | exact Or.inr rfl) pe_int) (pss_cons (ps_set (i := 9) sc__visited.nd rfl (by first | exact Or.inl rfl | exact Or.inr rfl) (pe_lst pa_nil)) (pss_one (ps_while PassesOwn.never (pt_val pe_bl) (pss_cons (ps_set (i := 10) sc__visited.nd rfl (by first | exact Or.inl rfl | exact Or.inr rfl) pe_non) (pss_cons (ps_if (pt_cmpR (op_eqD hr.units) (pe_callB dl_len (by rfl) (T.free 53) (by decide +kernel) (pa_cons (pv 5) pa_nil)) (pe_fld (pv 0) rfl) (by first | exact nomark _ | rfl)) (pss_cons (ps_expr (pe_bm PySem.F.plainAttrs_list PySem.F.slot_list_append PySem.F.type_list_append mt_append (pv 9) (pa_cons (pe_callTy dl_tuple (by rfl) (T.free 59) (by decide +kernel) (pa_cons (pv 5) pa_nil)) pa_nil))) (pss_one (ps_if (pt_not (dl_truth (pv 3))) (pss_one (ps_ret (pe_tup (pa_cons (pv 8) (pa_cons (pv 9) pa_nil))))) pss_nil))) (pss_cons (ps_set (i := 11) sc__visited.nd rfl (by first | exact Or.inl rfl | exact Or.inr rfl) (pe_callB (dl_min2 rfl) (by rfl) (T.free 56) (by decide +kernel) (pa_cons (pe_op dl_add (pe_ix dl_ix (pv 6) (pe_un un_neg pe_int) (fun _ _ => rfl)) pe_int) (pa_cons (pv 1) pa_nil)))) (pss_one (ps_set (i := 10) sc__visited.nd rfl (by first | exact Or.inl rfl | exact Or.inr rfl) (pe_callG G__least_free (hr.mono (by decide)) (by rfl) (T.glo 15) (pa_cons (pv 5) (pa_cons (pe_ix dl_ix (pv 4) (pe_callB dl_len (by rfl) (T.free 53) (by decide +kernel) (pa_cons (pv 5) pa_nil)) (fun _ _ => rfl)) (pa_cons (pv 7) (pa_cons (pv 11) pa_nil))))))))) (pss_one (ps_if (pt_cmpR dl_notN (pv 10) pe_non (by first | exact nomark _ | rfl)) (pss_cons (ps_aug (i := 8) sc__visited.nd rfl (by first | exact Or.inl rfl | exact Or.inr rfl) pe_int ip_add) (pss_cons (ps_if (pt_cmpR op_gt (pv 8) (pv 2) (by first | exact nomark _ | rfl)) (pss_one ps_never) pss_nil) (pss_cons (ps_expr (pe_bm PySem.F.plainAttrs_list PySem.F.slot_list_append PySem.F.type_list_append mt_append (pv 5) (pa_cons (pv 10) pa_nil))) (pss_cons (ps_expr (pe_bm PySem.F.plainAttrs_list PySem.F.slot_list_append PySem.F.type_list_append mt_append (pv 6) (pa_cons (pe_callB (dl_max2 rfl) (by rfl) (T.free 55) (by decide +kernel) (pa_cons (pe_ix dl_ix (pv 6) (pe_un un_neg pe_int) (fun _ _ => rfl)) (pa_cons (pe_op dl_add (pv 10) pe_int) pa_nil))) pa_nil))) (pss_one (ps_set (i := 7) sc__visited.nd rfl (by first | exact Or.inl rfl | exact Or.inr rfl) pe_int)))))) (pss_one (ps_if (dl_truth (pv 5)) (pss_cons (ps_set (i := 7) sc__visited.nd rfl (by first | exact Or.inl rfl | exact Or.inr rfl) (pe_op dl_add (pe_bm0 PySem.F.plainAttrs_list PySem.F.slot_list_pop PySem.F.type_list_pop mt_pop (pv 5)) pe_int)) (pss_one (ps_expr (pe_bm0 PySem.F.plainAttrs_list PySem.F.slot_list_pop PySem.F.type_list_pop mt_pop (pv 6))))) (pss_one (ps_ret (pe_tup (pa_cons (pv 8) (pa_cons (pv 9) pa_nil)))))))))))))))))))
theorem sc_first_colouring : FnScope ["graph", "k", "found"] ["graph", "k"] (defScope s_first_colouring) := ⟨rfl, rfl, rfl, by decide +kernel, rfl, by decide +kernel, by decide +kernel⟩
def t_first_colouring (K : PySem.W.Frag) (sp_checked_k sp__visited : Sp) : TS := tSeq (tDrop (tCall sp_checked_k [] E0 (tCons (tVar 1) tNil))) (tSeq (tAsg (tOp (rIxA K) (tCall sp__visited [] E0 (tCons (tVar 0) (tCons (tVar 1) (tCons (tC (.int (5000))) (tCons (tC (.bl false)) tNil))))) (tC (.int 1))) (gName 2)) (tSeq (tIfS (tNot (tTru K (tVar 2))) (tRet (tC .non)) (tNext)) (tRet (tOp (rIxA K) (tVar 2) (tC (.int 0))))))
theorem ok_first_colouring {sp sp_checked_k sp__visited : Sp} (T : Tx K mg fa fn exB) (G_checked_k : Good P w K mg base 2 (He.fAd K ("checked_k", none)) ["k"] sp_checked_k) (G__visited : Good P w K mg base 2 (He.fAd K ("_visited", none)) ["graph", "k", "limit", "whole"] sp__visited)
    (rd : ∀ vs H Q E, sp vs H Q E → t_first_colouring K sp_checked_k sp__visited { nx := fun _ H' => Q .non H', rt := Q } (L2.start ["graph", "k", "found"] vs) H) (len : ∀ vs H Q E, sp vs H Q E → vs.length = 2) : Good P w K mg base 3 (He.fAd K ("first_colouring", none)) ["graph", "k"] sp :=
  T.good 21 d_first_colouring rfl rfl rfl (ps := ["graph", "k"]) (k := 2) sc_first_colouring (fun _ _ _ _ _ _ us hl => match us, hl with | [_, _], _ => rfl) len rd fun fd cdv A outer s H E hr =>
    (pss_cons (ps_expr (pe_callG G_checked_k (hr.mono (by decide)) (by rfl) (T.glo 1) (pa_cons (pv 1) pa_nil))) (pss_cons (ps_set (i := 2) sc_first_colouring.nd rfl (by first | exact Or.inl rfl | exact Or.inr rfl) (pe_ix dl_ix (pe_callG G__visited (hr.mono (by decide)) (by rfl) (T.glo 16) (pa_cons (pv 0) (pa_cons (pv 1) (pa_cons (C8.pe_gc (by rfl) (T.int 61)) (pa_cons pe_bl pa_nil))))) pe_int (fun _ _ => rfl))) (pss_cons (ps_if (pt_not (dl_truth (pv 2))) (pss_one (ps_ret pe_non)) pss_nil) (pss_one (ps_ret (pe_ix dl_ix (pv 2) pe_int (fun _ _ => rfl)))))))
theorem sc_has_bare_node : FnScope ["graph", "node"] ["graph"] (defScope s_has_bare_node) := ⟨rfl, rfl, rfl, by decide +kernel, rfl, by decide +kernel, by decide +kernel⟩
def t_has_bare_node (K : PySem.W.Frag) (sp_Graph_degree : Sp) : TS := tSeq (tFor (iRng1 (tCons (tFld K (tVar 0) "nodes") tNil)) (gName 1) (tIfS (tTest (tOp (rEqD K) (tMeth (He.ga K "Graph") "degree" sp_Graph_degree [] E0 (tVar 0) (tCons (tVar 1) tNil)) (tC (.int 0)))) (tRet (tC (.bl true))) (tNext))) (tRet (tC (.bl false)))
theorem ok_has_bare_node {sp sp_Graph_degree : Sp} (T : Tx K mg fa fn exB) (G_Graph_degree : Good P w K mg base 2 (He.fAd K ("Graph", some "degree")) ["self", "v"] sp_Graph_degree)
    (rd : ∀ vs H Q E, sp vs H Q E → t_has_bare_node K sp_Graph_degree { nx := fun _ H' => Q .non H', rt := Q } (L2.start ["graph", "node"] vs) H) (len : ∀ vs H Q E, sp vs H Q E → vs.length = 1) : Good P w K mg base 3 (He.fAd K ("has_bare_node", none)) ["graph"] sp :=
  T.good 23 d_has_bare_node rfl rfl rfl (ps := ["graph"]) (k := 2) sc_has_bare_node (fun _ _ _ _ _ _ us hl => match us, hl with | [_], _ => rfl) len rd fun fd cdv A outer s H E hr =>
    (pss_cons (ps_for PassesOwn.never rfl (pi_range1 (by rfl) (T.free 57) (pa_cons (pe_fld (pv 0) rfl) pa_nil)) (pg_name (i := 1) sc_has_bare_node.nd rfl (by first | exact Or.inl rfl | exact Or.inr rfl)) (pss_one (ps_if (pt_cmpR (op_eqD hr.units) (pe_methG (pv 0) (T.cls 41) (T.meth 47) G_Graph_degree (hr.mono (by decide)) (pa_cons (pv 1) pa_nil)) pe_int (by first | exact nomark _ | rfl)) (pss_one (ps_ret pe_bl)) pss_nil))) (pss_one (ps_ret pe_bl)))
theorem sc_edge_colourings : FnScope ["graph", "k", "found", "u", "v", "colours"] ["graph", "k"] (defScope s_edge_colourings) := ⟨rfl, rfl, rfl, by decide +kernel, rfl, by decide +kernel, by decide +kernel⟩
def t_edge_colourings (K : PySem.W.Frag) (sp_has_bare_node sp_first_colouring sp_Graph_without_edge : Sp) : TS := tSeq (tIfS (tOr (tTru K (tCall sp_has_bare_node [] E0 (tCons (tVar 0) tNil))) (tTest (tOp rNotNA (tCall sp_first_colouring [] E0 (tCons (tVar 0) (tCons (tVar 1) tNil))) (tC .non)))) (tRet (tC .non)) (tNext)) (tSeq (tAsg (tLst (tNil)) (gName 2)) (tSeq (tFor (iSeq K (tFld K (tVar 0) "edges")) (gAny K 2 (gCons (gName 3) (gCons (gName 4) (gNil)))) (tSeq (tAsg (tCall sp_first_colouring [] E0 (tCons (tMeth (He.ga K "Graph") "without_edge" sp_Graph_without_edge [] E0 (tVar 0) (tCons (tVar 3) (tCons (tVar 4) tNil))) (tCons (tVar 1) tNil))) (gName 5)) (tSeq (tIfS (tTest (tOp rIsNA (tVar 5) (tC .non))) (tRet (tC .non)) (tNext)) (tDrop (tBM K "list" rAppend (tVar 2) (tCons (tVar 5) tNil)))))) (tRet (tVar 2))))
theorem ok_edge_colourings {sp sp_has_bare_node sp_first_colouring sp_Graph_without_edge : Sp} (T : Tx K mg fa fn exB) (G_has_bare_node : Good P w K mg base 3 (He.fAd K ("has_bare_node", none)) ["graph"] sp_has_bare_node) (G_first_colouring : Good P w K mg base 3 (He.fAd K ("first_colouring", none)) ["graph", "k"] sp_first_colouring) (G_Graph_without_edge : Good P w K mg base 6 (He.fAd K ("Graph", some "without_edge")) ["self", "u", "v"] sp_Graph_without_edge)
    (rd : ∀ vs H Q E, sp vs H Q E → t_edge_colourings K sp_has_bare_node sp_first_colouring sp_Graph_without_edge { nx := fun _ H' => Q .non H', rt := Q } (L2.start ["graph", "k", "found", "u", "v", "colours"] vs) H) (len : ∀ vs H Q E, sp vs H Q E → vs.length = 2) : Good P w K mg base 7 (He.fAd K ("edge_colourings", none)) ["graph", "k"] sp :=
  T.good 24 d_edge_colourings rfl rfl rfl (ps := ["graph", "k"]) (k := 6) sc_edge_colourings (fun _ _ _ _ _ _ us hl => match us, hl with | [_, _], _ => rfl) len rd fun fd cdv A outer s H E hr =>
    (pss_cons (ps_if (PW.pt (pw_or (dl_truth (pe_callG G_has_bare_node (hr.mono (by decide)) (by rfl) (T.glo 19) (pa_cons (pv 0) pa_nil))) (pw_or1 (pt_cmpR dl_notN (pe_callG G_first_colouring (hr.mono (by decide)) (by rfl) (T.glo 17) (pa_cons (pv 0) (pa_cons (pv 1) pa_nil))) pe_non (by first | exact nomark _ | rfl))))) (pss_one (ps_ret pe_non)) pss_nil) (pss_cons (ps_set (i := 2) sc_edge_colourings.nd rfl (by first | exact Or.inl rfl | exact Or.inr rfl) (pe_lst pa_nil)) (pss_cons (ps_for PassesOwn.never rfl (pi_seq (pe_fld (pv 0) rfl)) (pg_any rfl (pgs_cons (pg_name (i := 3) sc_edge_colourings.nd rfl (by first | exact Or.inl rfl | exact Or.inr rfl)) (pgs_cons (pg_name (i := 4) sc_edge_colourings.nd rfl (by first | exact Or.inl rfl | exact Or.inr rfl)) pgs_nil))) (pss_cons (ps_set (i := 5) sc_edge_colourings.nd rfl (by first | exact Or.inl rfl | exact Or.inr rfl) (pe_callG G_first_colouring (hr.mono (by decide)) (by rfl) (T.glo 17) (pa_cons (pe_methG (pv 0) (T.cls 41) (T.meth 48) G_Graph_without_edge (hr.mono (by decide)) (pa_cons (pv 3) (pa_cons (pv 4) pa_nil))) (pa_cons (pv 1) pa_nil)))) (pss_cons (ps_if (pt_cmpR dl_isN (pv 5) pe_non (by first | exact nomark _ | rfl)) (pss_one (ps_ret pe_non)) pss_nil) (pss_one (ps_expr (pe_bm PySem.F.plainAttrs_list PySem.F.slot_list_append PySem.F.type_list_append mt_append (pv 2) (pa_cons (pv 5) pa_nil))))))) (pss_one (ps_ret (pv 2))))))
theorem sc_is_critical : FnScope ["graph", "k"] ["graph", "k"] (defScope s_is_critical) := ⟨rfl, rfl, rfl, by decide +kernel, rfl, by decide +kernel, by decide +kernel⟩
def t_is_critical (K : PySem.W.Frag) (sp_checked_k sp_edge_colourings : Sp) : TS := tSeq (tDrop (tCall sp_checked_k [] E0 (tCons (tVar 1) tNil))) (tRet (tOp rNotNA (tCall sp_edge_colourings [] E0 (tCons (tVar 0) (tCons (tVar 1) tNil))) (tC .non)))
theorem ok_is_critical {sp sp_checked_k sp_edge_colourings : Sp} (T : Tx K mg fa fn exB) (G_checked_k : Good P w K mg base 2 (He.fAd K ("checked_k", none)) ["k"] sp_checked_k) (G_edge_colourings : Good P w K mg base 7 (He.fAd K ("edge_colourings", none)) ["graph", "k"] sp_edge_colourings)
    (rd : ∀ vs H Q E, sp vs H Q E → t_is_critical K sp_checked_k sp_edge_colourings { nx := fun _ H' => Q .non H', rt := Q } (L2.start ["graph", "k"] vs) H) (len : ∀ vs H Q E, sp vs H Q E → vs.length = 2) : Good P w K mg base 8 (He.fAd K ("is_critical", none)) ["graph", "k"] sp :=
  T.good 22 d_is_critical rfl rfl rfl (ps := ["graph", "k"]) (k := 7) sc_is_critical (fun _ _ _ _ _ _ us hl => match us, hl with | [_, _], _ => rfl) len rd fun fd cdv A outer s H E hr =>
    (pss_cons (ps_expr (pe_callG G_checked_k (hr.mono (by decide)) (by rfl) (T.glo 1) (pa_cons (pv 1) pa_nil))) (pss_one (ps_ret (pe_cmpR dl_notN (pe_callG G_edge_colourings (hr.mono (by decide)) (by rfl) (T.glo 20) (pa_cons (pv 0) (pa_cons (pv 1) pa_nil))) pe_non (by first | exact nomark _ | rfl)))))
theorem sc__law_whole : FnScope ["one"] ["one"] (defScope s__law_whole) := ⟨rfl, rfl, rfl, by decide +kernel, rfl, by decide +kernel, by decide +kernel⟩
def t__law_whole (K : PySem.W.Frag) : TS := tRet (tAndV (tCB (rIsi K) (tCons (tVar 0) (tCons (tC (.ty "int")) tNil))) (tNotV (tCB (rIsi K) (tCons (tVar 0) (tCons (tC (.ty "bool")) tNil)))))
theorem ok__law_whole {sp : Sp} (T : Tx K mg fa fn exB)
    (rd : ∀ vs H Q E, sp vs H Q E → t__law_whole K { nx := fun _ H' => Q .non H', rt := Q } (L2.start ["one"] vs) H) (len : ∀ vs H Q E, sp vs H Q E → vs.length = 1) : Good P w K mg base 1 (He.fAd K ("_law_whole", none)) ["one"] sp :=
  T.good 25 d__law_whole rfl rfl rfl (ps := ["one"]) (k := 0) sc__law_whole (fun _ _ _ _ _ _ us hl => match us, hl with | [_], _ => rfl) len rd fun fd cdv A outer s H E hr =>
    (pss_one (ps_ret (pe_and (pe_callB call_isi (by rfl) (T.free 52) (by decide +kernel) (pa_cons (pv 0) (pa_cons (pe_bltn (by rfl) (T.free 51) (by decide +kernel) rfl) pa_nil))) (pe_one (pe_not (pe_callB call_isi (by rfl) (T.free 52) (by decide +kernel) (pa_cons (pv 0) (pa_cons (pe_bltn (by rfl) (T.free 50) (by decide +kernel) rfl) pa_nil))))))))
theorem sc__law_wholes : FnScope ["row", "one"] ["row"] (defScope s__law_wholes) := ⟨rfl, rfl, rfl, by decide +kernel, rfl, by decide +kernel, by decide +kernel⟩
def t__law_wholes (K : PySem.W.Frag) (sp__law_whole : Sp) : TS := tRet (tAndV (tCB (rIsi K) (tCons (tVar 0) (tCons (tC (.ty "tuple")) tNil))) (tCB (rAll K) (tCons (tLc (iSeq K (tVar 0)) (gName 1) (tYes) (tCall sp__law_whole [] E0 (tCons (tVar 1) tNil)) [1]) tNil)))
theorem ok__law_wholes {sp sp__law_whole : Sp} (T : Tx K mg fa fn exB) (G__law_whole : Good P w K mg base 1 (He.fAd K ("_law_whole", none)) ["one"] sp__law_whole)
    (rd : ∀ vs H Q E, sp vs H Q E → t__law_wholes K sp__law_whole { nx := fun _ H' => Q .non H', rt := Q } (L2.start ["row", "one"] vs) H) (len : ∀ vs H Q E, sp vs H Q E → vs.length = 1) : Good P w K mg base 2 (He.fAd K ("_law_wholes", none)) ["row"] sp :=
  T.good 26 d__law_wholes rfl rfl rfl (ps := ["row"]) (k := 1) sc__law_wholes (fun _ _ _ _ _ _ us hl => match us, hl with | [_], _ => rfl) len rd fun fd cdv A outer s H E hr =>
    (pss_one (ps_ret (pe_and (pe_callB call_isi (by rfl) (T.free 52) (by decide +kernel) (pa_cons (pv 0) (pa_cons (pe_bltn (by rfl) (T.free 59) (by decide +kernel) rfl) pa_nil))) (pe_one (pe_callB (cr_all rfl) (by rfl) (T.free 49) (by decide +kernel) (pa_cons (pe_lc (own := [("one", 1)]) rfl sc__law_wholes.nd (pi_seq (pv 0)) (blkOk_by (N := ["row", "one"]) (sc := defScope s__law_wholes) (by decide +kernel)) (fun _ _ _ _ _ => (pg_name (i := 1) sc__law_wholes.nd rfl (by first | exact Or.inl rfl | exact Or.inr rfl))) (fun _ _ _ _ _ => pts_nil) (fun _ _ _ _ _ => (pe_callG G__law_whole (hr.mono (by decide)) (by rfl) (T.glo 21) (pa_cons (pv 1) pa_nil)))) pa_nil))))))
theorem sc__law_source : FnScope ["script", "place", "cells", "cell", "small", "one", "two", "three"] ["script", "place"] (defScope s__law_source) := ⟨rfl, rfl, rfl, by decide +kernel, rfl, by decide +kernel, by decide +kernel⟩
def t__law_source (K : PySem.W.Frag) : TS := tSeq (tAsg (tSl (rSlL K) (tVar 0) tNoPart (tPart (tC (.int 63)))) (gName 2)) (tSeq (tAsg (tC (.int 0)) (gName 3)) (tSeq (tIfS (tTest (tOp (rI0 fun i j => .bl (decide (j < i))) (tCB (rLenA K) (tCons (tVar 2) tNil)) (tC (.int 0)))) (tAsg (tOp (rIxA K) (tVar 2) (tOp (rI (fun _ j => j ≠ 0) fun i j => .int (i.fmod j)) (tVar 1) (tCB (rLenA K) (tCons (tVar 2) tNil)))) (gName 3)) (tNext)) (tSeq (tIfS (tAnd (tTest (tOp (rI0 fun i j => .bl (decide (j ≤ i))) (tVar 3) (tOp (rI CPow fun i j => .int (i ^ j.toNat)) (tC (.int 10)) (tC (.int 18))))) (tTest (tOp (rI0 fun i j => .bl (decide (i < j))) (tVar 1) (tCB (rLenA K) (tCons (tVar 2) tNil))))) (tRet (tOp (rI (fun _ j => j ≠ 0) fun i j => .int (i.fmod j)) (tCB rInt1A (tCons (tOp (rI0 fun i j => .int (i - j)) (tVar 3) (tOp (rI CPow fun i j => .int (i ^ j.toNat)) (tC (.int 10)) (tC (.int 18)))) tNil)) (tOp (rI CPow fun i j => .int (i ^ j.toNat)) (tC (.int 10)) (tC (.int 60))))) (tNext)) (tSeq (tAsg (tOp (rI (fun _ j => j ≠ 0) fun i j => .int (i.fmod j)) (tCB rInt1A (tCons (tVar 3) tNil)) (tC (.int 2147483647))) (gName 4)) (tSeq (tAsg (tOp (rI (fun _ j => j ≠ 0) fun i j => .int (i.fmod j)) (tCB rInt1A (tCons (tOp rAddA (tOp rAddA (tOp (rI CMul fun i j => .int (i * j)) (tVar 4) (tC (.int 48271))) (tOp (rI CMul fun i j => .int (i * j)) (tVar 1) (tC (.int 69621)))) (tC (.int 12345))) tNil)) (tC (.int 2147483647))) (gName 5)) (tSeq (tAsg (tOp (rI (fun _ j => j ≠ 0) fun i j => .int (i.fmod j)) (tCB rInt1A (tCons (tOp rAddA (tOp rAddA (tOp (rI CMul fun i j => .int (i * j)) (tVar 5) (tC (.int 16807))) (tOp (rI CDivN fun i j => .int (i.fdiv j)) (tVar 4) (tC (.int 7)))) (tOp (rI CMul fun i j => .int (i * j)) (tVar 1) (tC (.int 331)))) tNil)) (tC (.int 2147483629))) (gName 6)) (tSeq (tAsg (tOp (rI (fun _ j => j ≠ 0) fun i j => .int (i.fmod j)) (tCB rInt1A (tCons (tOp rAddA (tOp rAddA (tOp (rI CMul fun i j => .int (i * j)) (tVar 6) (tC (.int 48271))) (tOp (rI CMul fun i j => .int (i * j)) (tVar 5) (tC (.int 69621)))) (tC (.int 1))) tNil)) (tC (.int 2147483587))) (gName 7)) (tRet (tOp rAddA (tOp (rI CMul fun i j => .int (i * j)) (tVar 6) (tC (.int 2147483587))) (tVar 7))))))))))
theorem ok__law_source {sp : Sp} (T : Tx K mg fa fn exB)
    (rd : ∀ vs H Q E, sp vs H Q E → t__law_source K { nx := fun _ H' => Q .non H', rt := Q } (L2.start ["script", "place", "cells", "cell", "small", "one", "two", "three"] vs) H) (len : ∀ vs H Q E, sp vs H Q E → vs.length = 2) : Good P w K mg base 1 (He.fAd K ("_law_source", none)) ["script", "place"] sp :=
  T.good 27 d__law_source rfl rfl rfl (ps := ["script", "place"]) (k := 0) sc__law_source (fun _ _ _ _ _ _ us hl => match us, hl with | [_, _], _ => rfl) len rd fun fd cdv A outer s H E hr =>
    (pss_cons (ps_set (i := 2) sc__law_source.nd rfl (by first | exact Or.inl rfl | exact Or.inr rfl) (pe_slice sl_list (pv 0) po_none (po_some pe_int))) (pss_cons (ps_set (i := 3) sc__law_source.nd rfl (by first | exact Or.inl rfl | exact Or.inr rfl) pe_int) (pss_cons (ps_if (pt_cmpR op_gt (pe_callB dl_len (by rfl) (T.free 53) (by decide +kernel) (pa_cons (pv 2) pa_nil)) pe_int (by first | exact nomark _ | rfl)) (pss_one (ps_set (i := 3) sc__law_source.nd rfl (by first | exact Or.inl rfl | exact Or.inr rfl) (pe_ix dl_ix (pv 2) (pe_op op_modN (pv 1) (pe_callB dl_len (by rfl) (T.free 53) (by decide +kernel) (pa_cons (pv 2) pa_nil))) (fun _ _ => rfl)))) pss_nil) (pss_cons (ps_if (PW.pt (pw_and (pt_cmpR op_ge (pv 3) (pe_op op_pow pe_int pe_int) (by first | exact nomark _ | rfl)) (pw_and1 (pt_cmpR op_lt (pv 1) (pe_callB dl_len (by rfl) (T.free 53) (by decide +kernel) (pa_cons (pv 2) pa_nil)) (by first | exact nomark _ | rfl))))) (pss_one (ps_ret (pe_op op_modN (pe_callTy dl_int1 (by rfl) (T.free 51) (by decide +kernel) (pa_cons (pe_op op_sub (pv 3) (pe_op op_pow pe_int pe_int)) pa_nil)) (pe_op op_pow pe_int pe_int)))) pss_nil) (pss_cons (ps_set (i := 4) sc__law_source.nd rfl (by first | exact Or.inl rfl | exact Or.inr rfl) (pe_op op_modN (pe_callTy dl_int1 (by rfl) (T.free 51) (by decide +kernel) (pa_cons (pv 3) pa_nil)) pe_int)) (pss_cons (ps_set (i := 5) sc__law_source.nd rfl (by first | exact Or.inl rfl | exact Or.inr rfl) (pe_op op_modN (pe_callTy dl_int1 (by rfl) (T.free 51) (by decide +kernel) (pa_cons (pe_op dl_add (pe_op dl_add (pe_op op_mul (pv 4) pe_int) (pe_op op_mul (pv 1) pe_int)) pe_int) pa_nil)) pe_int)) (pss_cons (ps_set (i := 6) sc__law_source.nd rfl (by first | exact Or.inl rfl | exact Or.inr rfl) (pe_op op_modN (pe_callTy dl_int1 (by rfl) (T.free 51) (by decide +kernel) (pa_cons (pe_op dl_add (pe_op dl_add (pe_op op_mul (pv 5) pe_int) (pe_op op_fdivN (pv 4) pe_int)) (pe_op op_mul (pv 1) pe_int)) pa_nil)) pe_int)) (pss_cons (ps_set (i := 7) sc__law_source.nd rfl (by first | exact Or.inl rfl | exact Or.inr rfl) (pe_op op_modN (pe_callTy dl_int1 (by rfl) (T.free 51) (by decide +kernel) (pa_cons (pe_op dl_add (pe_op dl_add (pe_op op_mul (pv 6) pe_int) (pe_op op_mul (pv 5) pe_int)) pe_int) pa_nil)) pe_int)) (pss_one (ps_ret (pe_op dl_add (pe_op op_mul (pv 6) pe_int) (pv 7))))))))))))
theorem sc__law_colouring : FnScope ["n", "pairs", "k", "v", "lower", "u", "row", "colour", "taken", "most"] ["n", "pairs", "k"] (defScope s__law_colouring) := ⟨rfl, rfl, rfl, by decide +kernel, rfl, by decide +kernel, by decide +kernel⟩
def t__law_colouring (K : PySem.W.Frag) : TS := tSeq (tAsg (tLc (iRng1 (tCons (tVar 0) tNil)) (gName 3) (tYes) (tLst (tNil)) [3]) (gName 4)) (tSeq (tFor (iSeq K (tVar 1)) (gAny K 2 (gCons (gName 5) (gCons (gName 3) (gNil)))) (tDrop (tBM K "list" rAppend (tOp (rIxA K) (tVar 4) (tVar 3)) (tCons (tVar 5) tNil)))) (tSeq (tAsg (tLst (tNil)) (gName 6)) (tSeq (tAsg (tC (.int 0)) (gName 7)) (tSeq (tWhile (tTest (tOp (rI0 fun i j => .bl (decide (i < j))) (tCB (rLenA K) (tCons (tVar 6) tNil)) (tVar 0))) (tSeq (tAsg (tLc (iSeq K (tOp (rIxA K) (tVar 4) (tCB (rLenA K) (tCons (tVar 6) tNil)))) (gName 5) (tYes) (tOp (rIxA K) (tVar 6) (tVar 5)) [5]) (gName 8)) (tSeq (tAsg (tCB rMin2A (tCons (tVar 2) (tCons (tOp rAddA (tCB (rMax K) (tCons (tOp rAddA (tLst (tCons (tUn (rU fun i => .int (-i)) (tC (.int 1))) tNil)) (tVar 6)) tNil)) (tC (.int 2))) tNil))) (gName 9)) (tSeq (tWhile (tAnd (tTest (tOp (rI0 fun i j => .bl (decide (i < j))) (tVar 7) (tVar 9))) (tTest (tOp (rIn K false) (tVar 7) (tVar 8)))) (tAsg (tOp rAddA (tVar 7) (tC (.int 1))) (gName 7))) (tIfS (tTest (tOp (rI0 fun i j => .bl (decide (i < j))) (tVar 7) (tVar 9))) (tSeq (tDrop (tBM K "list" rAppend (tVar 6) (tCons (tVar 7) tNil))) (tAsg (tC (.int 0)) (gName 7))) (tIfS (tTest (tOp (rEqD K) (tVar 6) (tLst (tNil)))) (tRet (tC .non)) (tAsg (tOp rAddA (tBM0 K "list" rPop (tVar 6)) (tC (.int 1))) (gName 7)))))))) (tRet (tVar 6))))))
theorem ok__law_colouring {sp : Sp} (T : Tx K mg fa fn exB)
    (rd : ∀ vs H Q E, sp vs H Q E → t__law_colouring K { nx := fun _ H' => Q .non H', rt := Q } (L2.start ["n", "pairs", "k", "v", "lower", "u", "row", "colour", "taken", "most"] vs) H) (len : ∀ vs H Q E, sp vs H Q E → vs.length = 3) : Good P w K mg base 1 (He.fAd K ("_law_colouring", none)) ["n", "pairs", "k"] sp :=
  T.good 28 d__law_colouring rfl rfl rfl (ps := ["n", "pairs", "k"]) (k := 0) sc__law_colouring (fun _ _ _ _ _ _ us hl => match us, hl with | [_, _, _], _ => rfl) len rd fun fd cdv A outer s H E hr =>
    (pss_cons (ps_setLc (i := 4) (own := [("v", 3)]) rfl sc__law_colouring.nd rfl rfl (sw_true rfl rfl rfl (by decide +kernel)) (pi_range1 (by rfl) (T.free 57) (pa_cons (pv 0) pa_nil)) (blkOk_by (N := ["n", "pairs", "k", "v", "lower", "u", "row", "colour", "taken", "most"]) (sc := defScope s__law_colouring) (by decide +kernel)) (fun _ _ _ _ _ => (pg_name (i := 3) sc__law_colouring.nd rfl (by first | exact Or.inl rfl | exact Or.inr rfl))) (fun _ _ _ _ _ => pts_nil) (fun _ _ _ _ _ => (pe_lst pa_nil))) (pss_cons (ps_for PassesOwn.never rfl (pi_seq (pv 1)) (pg_any rfl (pgs_cons (pg_name (i := 5) sc__law_colouring.nd rfl (by first | exact Or.inl rfl | exact Or.inr rfl)) (pgs_cons (pg_name (i := 3) sc__law_colouring.nd rfl (by first | exact Or.inl rfl | exact Or.inr rfl)) pgs_nil))) (pss_one (ps_expr (pe_bm PySem.F.plainAttrs_list PySem.F.slot_list_append PySem.F.type_list_append mt_append (pe_ix dl_ix (pv 4) (pv 3) (fun _ _ => rfl)) (pa_cons (pv 5) pa_nil))))) (pss_cons (ps_set (i := 6) sc__law_colouring.nd rfl (by first | exact Or.inl rfl | exact Or.inr rfl) (pe_lst pa_nil)) (pss_cons (ps_set (i := 7) sc__law_colouring.nd rfl (by first | exact Or.inl rfl | exact Or.inr rfl) pe_int) (pss_cons (ps_while PassesOwn.never (pt_cmpR op_lt (pe_callB dl_len (by rfl) (T.free 53) (by decide +kernel) (pa_cons (pv 6) pa_nil)) (pv 0) (by first | exact nomark _ | rfl)) (pss_cons (ps_setLc (i := 8) (own := [("u", 5)]) rfl sc__law_colouring.nd rfl rfl (sw_true rfl rfl rfl (by decide +kernel)) (pi_seq (pe_ix dl_ix (pv 4) (pe_callB dl_len (by rfl) (T.free 53) (by decide +kernel) (pa_cons (pv 6) pa_nil)) (fun _ _ => rfl))) (blkOk_by (N := ["n", "pairs", "k", "v", "lower", "u", "row", "colour", "taken", "most"]) (sc := defScope s__law_colouring) (by decide +kernel)) (fun _ _ _ _ _ => (pg_name (i := 5) sc__law_colouring.nd rfl (by first | exact Or.inl rfl | exact Or.inr rfl))) (fun _ _ _ _ _ => pts_nil) (fun _ _ _ _ _ => (pe_ix dl_ix (pv 6) (pv 5) (fun _ _ => rfl)))) (pss_cons (ps_set (i := 9) sc__law_colouring.nd rfl (by first | exact Or.inl rfl | exact Or.inr rfl) (pe_callB (dl_min2 rfl) (by rfl) (T.free 56) (by decide +kernel) (pa_cons (pv 2) (pa_cons (pe_op dl_add (pe_callB (cr_max rfl) (by rfl) (T.free 55) (by decide +kernel) (pa_cons (pe_op dl_add (pe_lst (pa_cons (pe_un un_neg pe_int) pa_nil)) (pv 6)) pa_nil)) pe_int) pa_nil)))) (pss_cons (ps_while PassesOwn.never (PW.pt (pw_and (pt_cmpR op_lt (pv 7) (pv 9) (by first | exact nomark _ | rfl)) (pw_and1 (pt_cmpR op_in_seq (pv 7) (pv 8) (by first | exact nomark _ | rfl))))) (pss_one (ps_set (i := 7) sc__law_colouring.nd rfl (by first | exact Or.inl rfl | exact Or.inr rfl) (pe_op dl_add (pv 7) pe_int)))) (pss_one (ps_if (pt_cmpR op_lt (pv 7) (pv 9) (by first | exact nomark _ | rfl)) (pss_cons (ps_expr (pe_bm PySem.F.plainAttrs_list PySem.F.slot_list_append PySem.F.type_list_append mt_append (pv 6) (pa_cons (pv 7) pa_nil))) (pss_one (ps_set (i := 7) sc__law_colouring.nd rfl (by first | exact Or.inl rfl | exact Or.inr rfl) pe_int))) (pss_one (ps_if (pt_cmpR (op_eqD hr.units) (pv 6) (pe_lst pa_nil) (by first | exact nomark _ | rfl)) (pss_one (ps_ret pe_non)) (pss_one (ps_set (i := 7) sc__law_colouring.nd rfl (by first | exact Or.inl rfl | exact Or.inr rfl) (pe_op dl_add (pe_bm0 PySem.F.plainAttrs_list PySem.F.slot_list_pop PySem.F.type_list_pop mt_pop (pv 6)) pe_int))))))))))) (pss_one (ps_ret (pv 6))))))))
theorem sc__law_form : FnScope ["graph", "pair"] ["graph"] (defScope s__law_form) := ⟨rfl, rfl, rfl, by decide +kernel, rfl, by decide +kernel, by decide +kernel⟩
def t__law_form (K : PySem.W.Frag) (sp__law_whole sp__law_wholes : Sp) : TS := tSeq (tIfS (tOr (tNot (tTru K (tCB (rIsi K) (tCons (tVar 0) (tCons (tC (.ref (He.ga K "Graph"))) tNil))))) (tNot (tTru K (tCall sp__law_whole [] E0 (tCons (tFld K (tVar 0) "nodes") tNil))))) (tRet (tC .non)) (tNext)) (tSeq (tIfS (tNot (tTru K (tCB (rIsi K) (tCons (tFld K (tVar 0) "edges") (tCons (tC (.ty "tuple")) tNil))))) (tRet (tC .non)) (tNext)) (tSeq (tFor (iSeq K (tFld K (tVar 0) "edges")) (gName 1) (tIfS (tOr (tNot (tTru K (tCall sp__law_wholes [] E0 (tCons (tVar 1) tNil)))) (tTest (tOp (rNeD K) (tCB (rLenA K) (tCons (tVar 1) tNil)) (tC (.int 2))))) (tRet (tC .non)) (tNext))) (tRet (tLst (tCons (tFld K (tVar 0) "nodes") (tCons (tLc (iSeq K (tFld K (tVar 0) "edges")) (gName 1) (tYes) (tVar 1) [1]) tNil))))))
theorem ok__law_form {sp sp__law_whole sp__law_wholes : Sp} (T : Tx K mg fa fn exB) (G__law_whole : Good P w K mg base 1 (He.fAd K ("_law_whole", none)) ["one"] sp__law_whole) (G__law_wholes : Good P w K mg base 2 (He.fAd K ("_law_wholes", none)) ["row"] sp__law_wholes)
    (rd : ∀ vs H Q E, sp vs H Q E → t__law_form K sp__law_whole sp__law_wholes { nx := fun _ H' => Q .non H', rt := Q } (L2.start ["graph", "pair"] vs) H) (len : ∀ vs H Q E, sp vs H Q E → vs.length = 1) : Good P w K mg base 3 (He.fAd K ("_law_form", none)) ["graph"] sp :=
  T.good 29 d__law_form rfl rfl rfl (ps := ["graph"]) (k := 2) sc__law_form (fun _ _ _ _ _ _ us hl => match us, hl with | [_], _ => rfl) len rd fun fd cdv A outer s H E hr =>
    (pss_cons (ps_if (PW.pt (pw_or (pt_not (dl_truth (pe_callB call_isi (by rfl) (T.free 52) (by decide +kernel) (pa_cons (pv 0) (pa_cons (pe_glob (by rfl) (T.glo 40) rfl) pa_nil))))) (pw_or1 (pt_not (dl_truth (pe_callG G__law_whole (hr.mono (by decide)) (by rfl) (T.glo 21) (pa_cons (pe_fld (pv 0) rfl) pa_nil))))))) (pss_one (ps_ret pe_non)) pss_nil) (pss_cons (ps_if (pt_not (dl_truth (pe_callB call_isi (by rfl) (T.free 52) (by decide +kernel) (pa_cons (pe_fld (pv 0) rfl) (pa_cons (pe_bltn (by rfl) (T.free 59) (by decide +kernel) rfl) pa_nil))))) (pss_one (ps_ret pe_non)) pss_nil) (pss_cons (ps_for PassesOwn.never rfl (pi_seq (pe_fld (pv 0) rfl)) (pg_name (i := 1) sc__law_form.nd rfl (by first | exact Or.inl rfl | exact Or.inr rfl)) (pss_one (ps_if (PW.pt (pw_or (pt_not (dl_truth (pe_callG G__law_wholes (hr.mono (by decide)) (by rfl) (T.glo 22) (pa_cons (pv 1) pa_nil)))) (pw_or1 (pt_cmpR (op_neD hr.units) (pe_callB dl_len (by rfl) (T.free 53) (by decide +kernel) (pa_cons (pv 1) pa_nil)) pe_int (by first | exact nomark _ | rfl))))) (pss_one (ps_ret pe_non)) pss_nil))) (pss_one (ps_ret (pe_lst (pa_cons (pe_fld (pv 0) rfl) (pa_cons (pe_lc (own := [("pair", 1)]) rfl sc__law_form.nd (pi_seq (pe_fld (pv 0) rfl)) (blkOk_by (N := ["graph", "pair"]) (sc := defScope s__law_form) (by decide +kernel)) (fun _ _ _ _ _ => (pg_name (i := 1) sc__law_form.nd rfl (by first | exact Or.inl rfl | exact Or.inr rfl))) (fun _ _ _ _ _ => pts_nil) (fun _ _ _ _ _ => (pv 1))) pa_nil))))))))
theorem sc__law_beside : FnScope ["n", "pairs", "v", "near", "u", "row"] ["n", "pairs"] (defScope s__law_beside) := ⟨rfl, rfl, rfl, by decide +kernel, rfl, by decide +kernel, by decide +kernel⟩
def t__law_beside (K : PySem.W.Frag) : TS := tSeq (tAsg (tLc (iRng1 (tCons (tVar 0) tNil)) (gName 2) (tYes) (tLst (tNil)) [2]) (gName 3)) (tSeq (tFor (iSeq K (tVar 1)) (gAny K 2 (gCons (gName 4) (gCons (gName 2) (gNil)))) (tSeq (tDrop (tBM K "list" rAppend (tOp (rIxA K) (tVar 3) (tVar 4)) (tCons (tVar 2) tNil))) (tDrop (tBM K "list" rAppend (tOp (rIxA K) (tVar 3) (tVar 2)) (tCons (tVar 4) tNil))))) (tRet (tLc (iSeq K (tVar 3)) (gName 5) (tYes) (tCB (rSortA K) (tCons (tVar 5) tNil)) [5])))
theorem ok__law_beside {sp : Sp} (T : Tx K mg fa fn exB)
    (rd : ∀ vs H Q E, sp vs H Q E → t__law_beside K { nx := fun _ H' => Q .non H', rt := Q } (L2.start ["n", "pairs", "v", "near", "u", "row"] vs) H) (len : ∀ vs H Q E, sp vs H Q E → vs.length = 2) : Good P w K mg base 1 (He.fAd K ("_law_beside", none)) ["n", "pairs"] sp :=
  T.good 30 d__law_beside rfl rfl rfl (ps := ["n", "pairs"]) (k := 0) sc__law_beside (fun _ _ _ _ _ _ us hl => match us, hl with | [_, _], _ => rfl) len rd fun fd cdv A outer s H E hr =>
    (pss_cons (ps_setLc (i := 3) (own := [("v", 2)]) rfl sc__law_beside.nd rfl rfl (sw_true rfl rfl rfl (by decide +kernel)) (pi_range1 (by rfl) (T.free 57) (pa_cons (pv 0) pa_nil)) (blkOk_by (N := ["n", "pairs", "v", "near", "u", "row"]) (sc := defScope s__law_beside) (by decide +kernel)) (fun _ _ _ _ _ => (pg_name (i := 2) sc__law_beside.nd rfl (by first | exact Or.inl rfl | exact Or.inr rfl))) (fun _ _ _ _ _ => pts_nil) (fun _ _ _ _ _ => (pe_lst pa_nil))) (pss_cons (ps_for PassesOwn.never rfl (pi_seq (pv 1)) (pg_any rfl (pgs_cons (pg_name (i := 4) sc__law_beside.nd rfl (by first | exact Or.inl rfl | exact Or.inr rfl)) (pgs_cons (pg_name (i := 2) sc__law_beside.nd rfl (by first | exact Or.inl rfl | exact Or.inr rfl)) pgs_nil))) (pss_cons (ps_expr (pe_bm PySem.F.plainAttrs_list PySem.F.slot_list_append PySem.F.type_list_append mt_append (pe_ix dl_ix (pv 3) (pv 4) (fun _ _ => rfl)) (pa_cons (pv 2) pa_nil))) (pss_one (ps_expr (pe_bm PySem.F.plainAttrs_list PySem.F.slot_list_append PySem.F.type_list_append mt_append (pe_ix dl_ix (pv 3) (pv 2) (fun _ _ => rfl)) (pa_cons (pv 4) pa_nil)))))) (pss_one (ps_ret (pe_lc (own := [("row", 5)]) rfl sc__law_beside.nd (pi_seq (pv 3)) (blkOk_by (N := ["n", "pairs", "v", "near", "u", "row"]) (sc := defScope s__law_beside) (by decide +kernel)) (fun _ _ _ _ _ => (pg_name (i := 5) sc__law_beside.nd rfl (by first | exact Or.inl rfl | exact Or.inr rfl))) (fun _ _ _ _ _ => pts_nil) (fun _ _ _ _ _ => (pe_callB dl_sorted (by rfl) (T.free 58) (by decide +kernel) (pa_cons (pv 5) pa_nil))))))))
theorem sc__law_order : FnScope ["n", "number", "rest", "order", "v"] ["n", "number"] (defScope s__law_order) := ⟨rfl, rfl, rfl, by decide +kernel, rfl, by decide +kernel, by decide +kernel⟩
def t__law_order (K : PySem.W.Frag) : TS := tSeq (tAsg (tLstRg (tRg1 (tVar 0))) (gName 2)) (tSeq (tAsg (tLst (tNil)) (gName 3)) (tSeq (tFor (iRng1 (tCons (tVar 0) tNil)) (gName 4) (tSeq (tDrop (tBM K "list" rAppend (tVar 3) (tCons (tBM K "list" rPopAt (tVar 2) (tCons (tOp (rI (fun _ j => j ≠ 0) fun i j => .int (i.fmod j)) (tCB rInt1A (tCons (tVar 1) tNil)) (tOp (rI0 fun i j => .int (i - j)) (tVar 0) (tVar 4))) tNil)) tNil))) (tAsg (tOp (rI CDivN fun i j => .int (i.fdiv j)) (tVar 1) (tOp (rI0 fun i j => .int (i - j)) (tVar 0) (tVar 4))) (gName 1)))) (tRet (tVar 3))))
theorem ok__law_order {sp : Sp} (T : Tx K mg fa fn exB)
    (rd : ∀ vs H Q E, sp vs H Q E → t__law_order K { nx := fun _ H' => Q .non H', rt := Q } (L2.start ["n", "number", "rest", "order", "v"] vs) H) (len : ∀ vs H Q E, sp vs H Q E → vs.length = 2) : Good P w K mg base 1 (He.fAd K ("_law_order", none)) ["n", "number"] sp :=
  T.good 31 d__law_order rfl rfl rfl (ps := ["n", "number"]) (k := 0) sc__law_order (fun _ _ _ _ _ _ us hl => match us, hl with | [_, _], _ => rfl) len rd fun fd cdv A outer s H E hr =>
    (pss_cons (ps_set (i := 2) sc__law_order.nd rfl (by first | exact Or.inl rfl | exact Or.inr rfl) (pe_listRg rfl (by rfl) (T.free 54) (prg_1 (by rfl) (T.free 57) (pv 0)))) (pss_cons (ps_set (i := 3) sc__law_order.nd rfl (by first | exact Or.inl rfl | exact Or.inr rfl) (pe_lst pa_nil)) (pss_cons (ps_for PassesOwn.never rfl (pi_range1 (by rfl) (T.free 57) (pa_cons (pv 0) pa_nil)) (pg_name (i := 4) sc__law_order.nd rfl (by first | exact Or.inl rfl | exact Or.inr rfl)) (pss_cons (ps_expr (pe_bm PySem.F.plainAttrs_list PySem.F.slot_list_append PySem.F.type_list_append mt_append (pv 3) (pa_cons (pe_bm PySem.F.plainAttrs_list PySem.F.slot_list_pop PySem.F.type_list_pop mt_popAt (pv 2) (pa_cons (pe_op op_modN (pe_callTy dl_int1 (by rfl) (T.free 51) (by decide +kernel) (pa_cons (pv 1) pa_nil)) (pe_op op_sub (pv 0) (pv 4))) pa_nil)) pa_nil))) (pss_one (ps_set (i := 1) sc__law_order.nd rfl (by first | exact Or.inl rfl | exact Or.inr rfl) (pe_op op_fdivN (pv 1) (pe_op op_sub (pv 0) (pv 4))))))) (pss_one (ps_ret (pv 3))))))
theorem sc__law_mapped : FnScope ["pairs", "images", "rows", "u", "v", "row"] ["pairs", "images"] (defScope s__law_mapped) := ⟨rfl, rfl, rfl, by decide +kernel, rfl, by decide +kernel, by decide +kernel⟩
def t__law_mapped (K : PySem.W.Frag) : TS := tSeq (tAsg (tLc (iSeq K (tVar 0)) (gAny K 2 (gCons (gName 3) (gCons (gName 4) (gNil)))) (tYes) (tCB (rSortA K) (tCons (tLst (tCons (tOp (rIxA K) (tVar 1) (tVar 3)) (tCons (tOp (rIxA K) (tVar 1) (tVar 4)) tNil))) tNil)) [3, 4]) (gName 2)) (tRet (tCB (rSortA K) (tCons (tLc (iSeq K (tVar 2)) (gName 5) (tYes) (tTup (tCons (tOp (rIxA K) (tVar 5) (tC (.int 0))) (tCons (tOp (rIxA K) (tVar 5) (tC (.int 1))) tNil))) [5]) tNil)))
theorem ok__law_mapped {sp : Sp} (T : Tx K mg fa fn exB)
    (rd : ∀ vs H Q E, sp vs H Q E → t__law_mapped K { nx := fun _ H' => Q .non H', rt := Q } (L2.start ["pairs", "images", "rows", "u", "v", "row"] vs) H) (len : ∀ vs H Q E, sp vs H Q E → vs.length = 2) : Good P w K mg base 1 (He.fAd K ("_law_mapped", none)) ["pairs", "images"] sp :=
  T.good 32 d__law_mapped rfl rfl rfl (ps := ["pairs", "images"]) (k := 0) sc__law_mapped (fun _ _ _ _ _ _ us hl => match us, hl with | [_, _], _ => rfl) len rd fun fd cdv A outer s H E hr =>
    (pss_cons (ps_setLc (i := 2) (own := [("u", 3), ("v", 4)]) rfl sc__law_mapped.nd rfl rfl (sw_true rfl rfl rfl (by decide +kernel)) (pi_seq (pv 0)) (blkOk_by (N := ["pairs", "images", "rows", "u", "v", "row"]) (sc := defScope s__law_mapped) (by decide +kernel)) (fun _ _ _ _ _ => (pg_any rfl (pgs_cons (pg_name (i := 3) sc__law_mapped.nd rfl (by first | exact Or.inl rfl | exact Or.inr rfl)) (pgs_cons (pg_name (i := 4) sc__law_mapped.nd rfl (by first | exact Or.inl rfl | exact Or.inr rfl)) pgs_nil)))) (fun _ _ _ _ _ => pts_nil) (fun _ _ _ _ _ => (pe_callB dl_sorted (by rfl) (T.free 58) (by decide +kernel) (pa_cons (pe_lst (pa_cons (pe_ix dl_ix (pv 1) (pv 3) (fun _ _ => rfl)) (pa_cons (pe_ix dl_ix (pv 1) (pv 4) (fun _ _ => rfl)) pa_nil))) pa_nil)))) (pss_one (ps_ret (pe_callB dl_sorted (by rfl) (T.free 58) (by decide +kernel) (pa_cons (pe_lc (own := [("row", 5)]) rfl sc__law_mapped.nd (pi_seq (pv 2)) (blkOk_by (N := ["pairs", "images", "rows", "u", "v", "row"]) (sc := defScope s__law_mapped) (by decide +kernel)) (fun _ _ _ _ _ => (pg_name (i := 5) sc__law_mapped.nd rfl (by first | exact Or.inl rfl | exact Or.inr rfl))) (fun _ _ _ _ _ => pts_nil) (fun _ _ _ _ _ => (pe_tup (pa_cons (pe_ix dl_ix (pv 5) pe_int (fun _ _ => rfl)) (pa_cons (pe_ix dl_ix (pv 5) pe_int (fun _ _ => rfl)) pa_nil))))) pa_nil)))))
theorem sc__law_clique : FnScope ["n", "pairs", "u", "v"] ["n"] (defScope s__law_clique) := ⟨rfl, rfl, rfl, by decide +kernel, rfl, by decide +kernel, by decide +kernel⟩
def t__law_clique (K : PySem.W.Frag) : TS := tSeq (tAsg (tLst (tNil)) (gName 1)) (tSeq (tFor (iRng1 (tCons (tVar 0) tNil)) (gName 2) (tAsg (tOp rAddA (tVar 1) (tLc (iRng2 (tCons (tOp rAddA (tVar 2) (tC (.int 1))) (tCons (tVar 0) tNil))) (gName 3) (tYes) (tTup (tCons (tVar 2) (tCons (tVar 3) tNil))) [3])) (gName 1))) (tRet (tLst (tCons (tVar 0) (tCons (tVar 1) tNil)))))
theorem ok__law_clique {sp : Sp} (T : Tx K mg fa fn exB)
    (rd : ∀ vs H Q E, sp vs H Q E → t__law_clique K { nx := fun _ H' => Q .non H', rt := Q } (L2.start ["n", "pairs", "u", "v"] vs) H) (len : ∀ vs H Q E, sp vs H Q E → vs.length = 1) : Good P w K mg base 1 (He.fAd K ("_law_clique", none)) ["n"] sp :=
  T.good 33 d__law_clique rfl rfl rfl (ps := ["n"]) (k := 0) sc__law_clique (fun _ _ _ _ _ _ us hl => match us, hl with | [_], _ => rfl) len rd fun fd cdv A outer s H E hr =>
    (pss_cons (ps_set (i := 1) sc__law_clique.nd rfl (by first | exact Or.inl rfl | exact Or.inr rfl) (pe_lst pa_nil)) (pss_cons (ps_for PassesOwn.never rfl (pi_range1 (by rfl) (T.free 57) (pa_cons (pv 0) pa_nil)) (pg_name (i := 2) sc__law_clique.nd rfl (by first | exact Or.inl rfl | exact Or.inr rfl)) (pss_one (ps_set (i := 1) sc__law_clique.nd rfl (by first | exact Or.inl rfl | exact Or.inr rfl) (pe_op dl_add (pv 1) (pe_lc (own := [("v", 3)]) rfl sc__law_clique.nd (pi_range2 (by rfl) (T.free 57) (pa_cons (pe_op dl_add (pv 2) pe_int) (pa_cons (pv 0) pa_nil))) (blkOk_by (N := ["n", "pairs", "u", "v"]) (sc := defScope s__law_clique) (by decide +kernel)) (fun _ _ _ _ _ => (pg_name (i := 3) sc__law_clique.nd rfl (by first | exact Or.inl rfl | exact Or.inr rfl))) (fun _ _ _ _ _ => pts_nil) (fun _ _ _ _ _ => (pe_tup (pa_cons (pv 2) (pa_cons (pv 3) pa_nil))))))))) (pss_one (ps_ret (pe_lst (pa_cons (pv 0) (pa_cons (pv 1) pa_nil)))))))
theorem sc__law_rim : FnScope ["n", "hub", "pairs", "v"] ["n", "hub"] (defScope s__law_rim) := ⟨rfl, rfl, rfl, by decide +kernel, rfl, by decide +kernel, by decide +kernel⟩
def t__law_rim (K : PySem.W.Frag) : TS := tSeq (tAsg (tOp rAddA (tLc (iRng1 (tCons (tOp (rI0 fun i j => .int (i - j)) (tVar 0) (tC (.int 1))) tNil)) (gName 3) (tYes) (tTup (tCons (tVar 3) (tCons (tOp rAddA (tVar 3) (tC (.int 1))) tNil))) [3]) (tLst (tCons (tTup (tCons (tC (.int 0)) (tCons (tOp (rI0 fun i j => .int (i - j)) (tVar 0) (tC (.int 1))) tNil))) tNil))) (gName 2)) (tSeq (tIfS (tTru K (tVar 1)) (tRet (tLst (tCons (tOp rAddA (tVar 0) (tC (.int 1))) (tCons (tCB (rSortA K) (tCons (tOp rAddA (tVar 2) (tLc (iRng1 (tCons (tVar 0) tNil)) (gName 3) (tYes) (tTup (tCons (tVar 3) (tCons (tVar 0) tNil))) [3])) tNil)) tNil)))) (tNext)) (tRet (tLst (tCons (tVar 0) (tCons (tCB (rSortA K) (tCons (tVar 2) tNil)) tNil)))))
theorem ok__law_rim {sp : Sp} (T : Tx K mg fa fn exB)
    (rd : ∀ vs H Q E, sp vs H Q E → t__law_rim K { nx := fun _ H' => Q .non H', rt := Q } (L2.start ["n", "hub", "pairs", "v"] vs) H) (len : ∀ vs H Q E, sp vs H Q E → vs.length = 2) : Good P w K mg base 1 (He.fAd K ("_law_rim", none)) ["n", "hub"] sp :=
  T.good 34 d__law_rim rfl rfl rfl (ps := ["n", "hub"]) (k := 0) sc__law_rim (fun _ _ _ _ _ _ us hl => match us, hl with | [_, _], _ => rfl) len rd fun fd cdv A outer s H E hr =>
    (pss_cons (ps_set (i := 2) sc__law_rim.nd rfl (by first | exact Or.inl rfl | exact Or.inr rfl) (pe_op dl_add (pe_lc (own := [("v", 3)]) rfl sc__law_rim.nd (pi_range1 (by rfl) (T.free 57) (pa_cons (pe_op op_sub (pv 0) pe_int) pa_nil)) (blkOk_by (N := ["n", "hub", "pairs", "v"]) (sc := defScope s__law_rim) (by decide +kernel)) (fun _ _ _ _ _ => (pg_name (i := 3) sc__law_rim.nd rfl (by first | exact Or.inl rfl | exact Or.inr rfl))) (fun _ _ _ _ _ => pts_nil) (fun _ _ _ _ _ => (pe_tup (pa_cons (pv 3) (pa_cons (pe_op dl_add (pv 3) pe_int) pa_nil))))) (pe_lst (pa_cons (pe_tup (pa_cons pe_int (pa_cons (pe_op op_sub (pv 0) pe_int) pa_nil))) pa_nil)))) (pss_cons (ps_if (dl_truth (pv 1)) (pss_one (ps_ret (pe_lst (pa_cons (pe_op dl_add (pv 0) pe_int) (pa_cons (pe_callB dl_sorted (by rfl) (T.free 58) (by decide +kernel) (pa_cons (pe_op dl_add (pv 2) (pe_lc (own := [("v", 3)]) rfl sc__law_rim.nd (pi_range1 (by rfl) (T.free 57) (pa_cons (pv 0) pa_nil)) (blkOk_by (N := ["n", "hub", "pairs", "v"]) (sc := defScope s__law_rim) (by decide +kernel)) (fun _ _ _ _ _ => (pg_name (i := 3) sc__law_rim.nd rfl (by first | exact Or.inl rfl | exact Or.inr rfl))) (fun _ _ _ _ _ => pts_nil) (fun _ _ _ _ _ => (pe_tup (pa_cons (pv 3) (pa_cons (pv 0) pa_nil)))))) pa_nil)) pa_nil))))) pss_nil) (pss_one (ps_ret (pe_lst (pa_cons (pv 0) (pa_cons (pe_callB dl_sorted (by rfl) (T.free 58) (by decide +kernel) (pa_cons (pv 2) pa_nil)) pa_nil)))))))
theorem sc__law_lots : FnScope ["row", "lots", "one", "lot"] ["row"] (defScope s__law_lots) := ⟨rfl, rfl, rfl, by decide +kernel, rfl, by decide +kernel, by decide +kernel⟩
def t__law_lots (K : PySem.W.Frag) : TS := tSeq (tAsg (tLst (tCons (tLst (tNil)) tNil)) (gName 1)) (tSeq (tFor (iSeq K (tVar 0)) (gName 2) (tAsg (tOp rAddA (tVar 1) (tLc (iSeq K (tVar 1)) (gName 3) (tYes) (tOp rAddA (tVar 3) (tLst (tCons (tVar 2) tNil))) [3])) (gName 1))) (tRet (tSl (rSlL K) (tVar 1) (tPart (tC (.int 1))) (tPart (tUn (rU fun i => .int (-i)) (tC (.int 1)))))))
theorem ok__law_lots {sp : Sp} (T : Tx K mg fa fn exB)
    (rd : ∀ vs H Q E, sp vs H Q E → t__law_lots K { nx := fun _ H' => Q .non H', rt := Q } (L2.start ["row", "lots", "one", "lot"] vs) H) (len : ∀ vs H Q E, sp vs H Q E → vs.length = 1) : Good P w K mg base 1 (He.fAd K ("_law_lots", none)) ["row"] sp :=
  T.good 35 d__law_lots rfl rfl rfl (ps := ["row"]) (k := 0) sc__law_lots (fun _ _ _ _ _ _ us hl => match us, hl with | [_], _ => rfl) len rd fun fd cdv A outer s H E hr =>
    (pss_cons (ps_set (i := 1) sc__law_lots.nd rfl (by first | exact Or.inl rfl | exact Or.inr rfl) (pe_lst (pa_cons (pe_lst pa_nil) pa_nil))) (pss_cons (ps_for PassesOwn.never rfl (pi_seq (pv 0)) (pg_name (i := 2) sc__law_lots.nd rfl (by first | exact Or.inl rfl | exact Or.inr rfl)) (pss_one (ps_set (i := 1) sc__law_lots.nd rfl (by first | exact Or.inl rfl | exact Or.inr rfl) (pe_op dl_add (pv 1) (pe_lc (own := [("lot", 3)]) rfl sc__law_lots.nd (pi_seq (pv 1)) (blkOk_by (N := ["row", "lots", "one", "lot"]) (sc := defScope s__law_lots) (by decide +kernel)) (fun _ _ _ _ _ => (pg_name (i := 3) sc__law_lots.nd rfl (by first | exact Or.inl rfl | exact Or.inr rfl))) (fun _ _ _ _ _ => pts_nil) (fun _ _ _ _ _ => (pe_op dl_add (pv 3) (pe_lst (pa_cons (pv 2) pa_nil))))))))) (pss_one (ps_ret (pe_slice sl_list (pv 1) (po_some pe_int) (po_some (pe_un un_neg pe_int)))))))
theorem sc__law_joined : FnScope ["first", "x", "y", "second", "node", "moved", "n", "v", "places", "edge", "pairs", "u", "far", "pair"] ["first", "x", "y", "second", "node", "moved"] (defScope s__law_joined) := ⟨rfl, rfl, rfl, by decide +kernel, rfl, by decide +kernel, by decide +kernel⟩
def t__law_joined (K : PySem.W.Frag) : TS := tSeq (tAsg (tOp (rIxA K) (tVar 0) (tC (.int 0))) (gName 6)) (tSeq (tAsg (tLc (iRng1 (tCons (tOp (rIxA K) (tVar 3) (tC (.int 0))) tNil)) (gName 7) (tYes) (tOp (rI0 fun i j => .int (i - j)) (tOp rAddA (tVar 6) (tVar 7)) (tCB rInt1A (tCons (tOp (rI0 fun i j => .bl (decide (j < i))) (tVar 7) (tVar 4)) tNil))) [7]) (gName 8)) (tSeq (tAsg (tTup (tCons (tCB rMin2A (tCons (tVar 1) (tCons (tVar 2) tNil))) (tCons (tCB rMax2A (tCons (tVar 1) (tCons (tVar 2) tNil))) tNil))) (gName 9)) (tSeq (tAsg (tLc (iSeq K (tOp (rIxA K) (tVar 0) (tC (.int 1)))) (gName 13) (tTest (tOp (rNeD K) (tVar 13) (tVar 9))) (tVar 13) [13]) (gName 10)) (tSeq (tFor (iSeq K (tOp (rIxA K) (tVar 3) (tC (.int 1)))) (gAny K 2 (gCons (gName 11) (gCons (gName 7) (gNil)))) (tSeq (tAsg (tOp (rI0 fun i j => .int (i - j)) (tOp rAddA (tVar 11) (tVar 7)) (tVar 4)) (gName 12)) (tIfS (tTest (tOp (rIn K true) (tVar 4) (tTup (tCons (tVar 11) (tCons (tVar 7) tNil))))) (tDrop (tBM K "list" rAppend (tVar 10) (tCons (tTup (tCons (tOp (rIxA K) (tVar 8) (tVar 11)) (tCons (tOp (rIxA K) (tVar 8) (tVar 7)) tNil))) tNil))) (tIfS (tTest (tOp (rIn K false) (tVar 12) (tVar 5))) (tDrop (tBM K "list" rAppend (tVar 10) (tCons (tTup (tCons (tVar 2) (tCons (tOp (rIxA K) (tVar 8) (tVar 12)) tNil))) tNil))) (tDrop (tBM K "list" rAppend (tVar 10) (tCons (tTup (tCons (tVar 1) (tCons (tOp (rIxA K) (tVar 8) (tVar 12)) tNil))) tNil))))))) (tRet (tLst (tCons (tOp (rI0 fun i j => .int (i - j)) (tOp rAddA (tVar 6) (tOp (rIxA K) (tVar 3) (tC (.int 0)))) (tC (.int 1))) (tCons (tCB (rSortA K) (tCons (tVar 10) tNil)) tNil))))))))
theorem ok__law_joined {sp : Sp} (T : Tx K mg fa fn exB)
    (rd : ∀ vs H Q E, sp vs H Q E → t__law_joined K { nx := fun _ H' => Q .non H', rt := Q } (L2.start ["first", "x", "y", "second", "node", "moved", "n", "v", "places", "edge", "pairs", "u", "far", "pair"] vs) H) (len : ∀ vs H Q E, sp vs H Q E → vs.length = 6) : Good P w K mg base 1 (He.fAd K ("_law_joined", none)) ["first", "x", "y", "second", "node", "moved"] sp :=
  T.good 36 d__law_joined rfl rfl rfl (ps := ["first", "x", "y", "second", "node", "moved"]) (k := 0) sc__law_joined (fun _ _ _ _ _ _ us hl => match us, hl with | [_, _, _, _, _, _], _ => rfl) len rd fun fd cdv A outer s H E hr =>
    (pss_cons (ps_set (i := 6) sc__law_joined.nd rfl (by first | exact Or.inl rfl | exact Or.inr rfl) (pe_ix dl_ix (pv 0) pe_int (fun _ _ => rfl))) (pss_cons (ps_setLc (i := 8) (own := [("v", 7)]) rfl sc__law_joined.nd rfl rfl (sw_true rfl rfl rfl (by decide +kernel)) (pi_range1 (by rfl) (T.free 57) (pa_cons (pe_ix dl_ix (pv 3) pe_int (fun _ _ => rfl)) pa_nil)) (blkOk_by (N := ["first", "x", "y", "second", "node", "moved", "n", "v", "places", "edge", "pairs", "u", "far", "pair"]) (sc := defScope s__law_joined) (by decide +kernel)) (fun _ _ _ _ _ => (pg_name (i := 7) sc__law_joined.nd rfl (by first | exact Or.inl rfl | exact Or.inr rfl))) (fun _ _ _ _ _ => pts_nil) (fun _ _ _ _ _ => (pe_op op_sub (pe_op dl_add (pv 6) (pv 7)) (pe_callTy dl_int1 (by rfl) (T.free 51) (by decide +kernel) (pa_cons (pe_cmpR op_gt (pv 7) (pv 4) (by first | exact nomark _ | rfl)) pa_nil))))) (pss_cons (ps_set (i := 9) sc__law_joined.nd rfl (by first | exact Or.inl rfl | exact Or.inr rfl) (pe_tup (pa_cons (pe_callB (dl_min2 rfl) (by rfl) (T.free 56) (by decide +kernel) (pa_cons (pv 1) (pa_cons (pv 2) pa_nil))) (pa_cons (pe_callB (dl_max2 rfl) (by rfl) (T.free 55) (by decide +kernel) (pa_cons (pv 1) (pa_cons (pv 2) pa_nil))) pa_nil)))) (pss_cons (ps_setLc (i := 10) (own := [("pair", 13)]) rfl sc__law_joined.nd rfl rfl (sw_true rfl rfl rfl (by decide +kernel)) (pi_seq (pe_ix dl_ix (pv 0) pe_int (fun _ _ => rfl))) (blkOk_by (N := ["first", "x", "y", "second", "node", "moved", "n", "v", "places", "edge", "pairs", "u", "far", "pair"]) (sc := defScope s__law_joined) (by decide +kernel)) (fun _ _ _ _ _ => (pg_name (i := 13) sc__law_joined.nd rfl (by first | exact Or.inl rfl | exact Or.inr rfl))) (fun _ _ _ _ _ => (pts_one (pt_cmpR (op_neD hr.units) (pv 13) (pv 9) (by first | exact nomark _ | rfl)))) (fun _ _ _ _ _ => (pv 13))) (pss_cons (ps_for PassesOwn.never rfl (pi_seq (pe_ix dl_ix (pv 3) pe_int (fun _ _ => rfl))) (pg_any rfl (pgs_cons (pg_name (i := 11) sc__law_joined.nd rfl (by first | exact Or.inl rfl | exact Or.inr rfl)) (pgs_cons (pg_name (i := 7) sc__law_joined.nd rfl (by first | exact Or.inl rfl | exact Or.inr rfl)) pgs_nil))) (pss_cons (ps_set (i := 12) sc__law_joined.nd rfl (by first | exact Or.inl rfl | exact Or.inr rfl) (pe_op op_sub (pe_op dl_add (pv 11) (pv 7)) (pv 4))) (pss_one (ps_if (pt_cmpR op_notIn_seq (pv 4) (pe_tup (pa_cons (pv 11) (pa_cons (pv 7) pa_nil))) (by first | exact nomark _ | rfl)) (pss_one (ps_expr (pe_bm PySem.F.plainAttrs_list PySem.F.slot_list_append PySem.F.type_list_append mt_append (pv 10) (pa_cons (pe_tup (pa_cons (pe_ix dl_ix (pv 8) (pv 11) (fun _ _ => rfl)) (pa_cons (pe_ix dl_ix (pv 8) (pv 7) (fun _ _ => rfl)) pa_nil))) pa_nil)))) (pss_one (ps_if (pt_cmpR op_in_seq (pv 12) (pv 5) (by first | exact nomark _ | rfl)) (pss_one (ps_expr (pe_bm PySem.F.plainAttrs_list PySem.F.slot_list_append PySem.F.type_list_append mt_append (pv 10) (pa_cons (pe_tup (pa_cons (pv 2) (pa_cons (pe_ix dl_ix (pv 8) (pv 12) (fun _ _ => rfl)) pa_nil))) pa_nil)))) (pss_one (ps_expr (pe_bm PySem.F.plainAttrs_list PySem.F.slot_list_append PySem.F.type_list_append mt_append (pv 10) (pa_cons (pe_tup (pa_cons (pv 1) (pa_cons (pe_ix dl_ix (pv 8) (pv 12) (fun _ _ => rfl)) pa_nil))) pa_nil)))))))))) (pss_one (ps_ret (pe_lst (pa_cons (pe_op op_sub (pe_op dl_add (pv 6) (pe_ix dl_ix (pv 3) pe_int (fun _ _ => rfl))) pe_int) (pa_cons (pe_callB dl_sorted (by rfl) (T.free 58) (by decide +kernel) (pa_cons (pv 10) pa_nil)) pa_nil))))))))))
theorem sc__law_parted : FnScope ["second", "node", "moved", "n", "pairs", "u", "v", "far"] ["second", "node", "moved"] (defScope s__law_parted) := ⟨rfl, rfl, rfl, by decide +kernel, rfl, by decide +kernel, by decide +kernel⟩
def t__law_parted (K : PySem.W.Frag) : TS := tSeq (tAsg (tOp (rIxA K) (tVar 0) (tC (.int 0))) (gName 3)) (tSeq (tAsg (tLst (tNil)) (gName 4)) (tSeq (tFor (iSeq K (tOp (rIxA K) (tVar 0) (tC (.int 1)))) (gAny K 2 (gCons (gName 5) (gCons (gName 6) (gNil)))) (tSeq (tAsg (tOp (rI0 fun i j => .int (i - j)) (tOp rAddA (tVar 5) (tVar 6)) (tVar 1)) (gName 7)) (tIfS (tAnd (tTest (tOp (rIn K false) (tVar 1) (tTup (tCons (tVar 5) (tCons (tVar 6) tNil))))) (tTest (tOp (rIn K false) (tVar 7) (tVar 2)))) (tDrop (tBM K "list" rAppend (tVar 4) (tCons (tTup (tCons (tVar 7) (tCons (tVar 3) tNil))) tNil))) (tDrop (tBM K "list" rAppend (tVar 4) (tCons (tTup (tCons (tVar 5) (tCons (tVar 6) tNil))) tNil)))))) (tRet (tLst (tCons (tOp rAddA (tVar 3) (tC (.int 1))) (tCons (tCB (rSortA K) (tCons (tVar 4) tNil)) tNil))))))
theorem ok__law_parted {sp : Sp} (T : Tx K mg fa fn exB)
    (rd : ∀ vs H Q E, sp vs H Q E → t__law_parted K { nx := fun _ H' => Q .non H', rt := Q } (L2.start ["second", "node", "moved", "n", "pairs", "u", "v", "far"] vs) H) (len : ∀ vs H Q E, sp vs H Q E → vs.length = 3) : Good P w K mg base 1 (He.fAd K ("_law_parted", none)) ["second", "node", "moved"] sp :=
  T.good 37 d__law_parted rfl rfl rfl (ps := ["second", "node", "moved"]) (k := 0) sc__law_parted (fun _ _ _ _ _ _ us hl => match us, hl with | [_, _, _], _ => rfl) len rd fun fd cdv A outer s H E hr =>
    (pss_cons (ps_set (i := 3) sc__law_parted.nd rfl (by first | exact Or.inl rfl | exact Or.inr rfl) (pe_ix dl_ix (pv 0) pe_int (fun _ _ => rfl))) (pss_cons (ps_set (i := 4) sc__law_parted.nd rfl (by first | exact Or.inl rfl | exact Or.inr rfl) (pe_lst pa_nil)) (pss_cons (ps_for PassesOwn.never rfl (pi_seq (pe_ix dl_ix (pv 0) pe_int (fun _ _ => rfl))) (pg_any rfl (pgs_cons (pg_name (i := 5) sc__law_parted.nd rfl (by first | exact Or.inl rfl | exact Or.inr rfl)) (pgs_cons (pg_name (i := 6) sc__law_parted.nd rfl (by first | exact Or.inl rfl | exact Or.inr rfl)) pgs_nil))) (pss_cons (ps_set (i := 7) sc__law_parted.nd rfl (by first | exact Or.inl rfl | exact Or.inr rfl) (pe_op op_sub (pe_op dl_add (pv 5) (pv 6)) (pv 1))) (pss_one (ps_if (PW.pt (pw_and (pt_cmpR op_in_seq (pv 1) (pe_tup (pa_cons (pv 5) (pa_cons (pv 6) pa_nil))) (by first | exact nomark _ | rfl)) (pw_and1 (pt_cmpR op_in_seq (pv 7) (pv 2) (by first | exact nomark _ | rfl))))) (pss_one (ps_expr (pe_bm PySem.F.plainAttrs_list PySem.F.slot_list_append PySem.F.type_list_append mt_append (pv 4) (pa_cons (pe_tup (pa_cons (pv 7) (pa_cons (pv 3) pa_nil))) pa_nil)))) (pss_one (ps_expr (pe_bm PySem.F.plainAttrs_list PySem.F.slot_list_append PySem.F.type_list_append mt_append (pv 4) (pa_cons (pe_tup (pa_cons (pv 5) (pa_cons (pv 6) pa_nil))) pa_nil)))))))) (pss_one (ps_ret (pe_lst (pa_cons (pe_op dl_add (pv 3) pe_int) (pa_cons (pe_callB dl_sorted (by rfl) (T.free 58) (by decide +kernel) (pa_cons (pv 4) pa_nil)) pa_nil))))))))
theorem sc__law_two_sides : FnScope ["hub", "one"] [] (defScope s__law_two_sides) := ⟨rfl, rfl, rfl, by decide +kernel, rfl, by decide +kernel, by decide +kernel⟩
def t__law_two_sides (K : PySem.W.Frag) : TS := tSeq (tAsg (tLst (tCons (tTup (tCons (tC (.int 0)) (tCons (tC (.int 1)) tNil))) (tCons (tTup (tCons (tC (.int 0)) (tCons (tC (.int 2)) tNil))) (tCons (tTup (tCons (tC (.int 0)) (tCons (tC (.int 3)) tNil))) (tCons (tTup (tCons (tC (.int 0)) (tCons (tC (.int 4)) tNil))) (tCons (tTup (tCons (tC (.int 0)) (tCons (tC (.int 5)) tNil))) (tCons (tTup (tCons (tC (.int 0)) (tCons (tC (.int 6)) tNil))) tNil))))))) (gName 0)) (tSeq (tAsg (tLst (tCons (tTup (tCons (tC (.int 1)) (tCons (tC (.int 3)) tNil))) (tCons (tTup (tCons (tC (.int 1)) (tCons (tC (.int 4)) tNil))) (tCons (tTup (tCons (tC (.int 1)) (tCons (tC (.int 7)) tNil))) (tCons (tTup (tCons (tC (.int 2)) (tCons (tC (.int 3)) tNil))) (tCons (tTup (tCons (tC (.int 2)) (tCons (tC (.int 8)) tNil))) tNil)))))) (gName 1)) (tRet (tLst (tCons (tC (.int 9)) (tCons (tOp rAddA (tOp rAddA (tVar 0) (tVar 1)) (tLst (tCons (tTup (tCons (tC (.int 4)) (tCons (tC (.int 6)) tNil))) (tCons (tTup (tCons (tC (.int 4)) (tCons (tC (.int 7)) tNil))) (tCons (tTup (tCons (tC (.int 5)) (tCons (tC (.int 6)) tNil))) (tCons (tTup (tCons (tC (.int 5)) (tCons (tC (.int 8)) tNil))) (tCons (tTup (tCons (tC (.int 7)) (tCons (tC (.int 8)) tNil))) tNil))))))) tNil)))))
theorem ok__law_two_sides {sp : Sp} (T : Tx K mg fa fn exB)
    (rd : ∀ vs H Q E, sp vs H Q E → t__law_two_sides K { nx := fun _ H' => Q .non H', rt := Q } (L2.start ["hub", "one"] vs) H) (len : ∀ vs H Q E, sp vs H Q E → vs.length = 0) : Good P w K mg base 1 (He.fAd K ("_law_two_sides", none)) [] sp :=
  T.good 38 d__law_two_sides rfl rfl rfl (ps := []) (k := 0) sc__law_two_sides (fun _ _ _ _ _ _ us hl => match us, hl with | [], _ => rfl) len rd fun fd cdv A outer s H E hr =>
    (pss_cons (ps_set (i := 0) sc__law_two_sides.nd rfl (by first | exact Or.inl rfl | exact Or.inr rfl) (pe_lst (pa_cons (pe_tup (pa_cons pe_int (pa_cons pe_int pa_nil))) (pa_cons (pe_tup (pa_cons pe_int (pa_cons pe_int pa_nil))) (pa_cons (pe_tup (pa_cons pe_int (pa_cons pe_int pa_nil))) (pa_cons (pe_tup (pa_cons pe_int (pa_cons pe_int pa_nil))) (pa_cons (pe_tup (pa_cons pe_int (pa_cons pe_int pa_nil))) (pa_cons (pe_tup (pa_cons pe_int (pa_cons pe_int pa_nil))) pa_nil)))))))) (pss_cons (ps_set (i := 1) sc__law_two_sides.nd rfl (by first | exact Or.inl rfl | exact Or.inr rfl) (pe_lst (pa_cons (pe_tup (pa_cons pe_int (pa_cons pe_int pa_nil))) (pa_cons (pe_tup (pa_cons pe_int (pa_cons pe_int pa_nil))) (pa_cons (pe_tup (pa_cons pe_int (pa_cons pe_int pa_nil))) (pa_cons (pe_tup (pa_cons pe_int (pa_cons pe_int pa_nil))) (pa_cons (pe_tup (pa_cons pe_int (pa_cons pe_int pa_nil))) pa_nil))))))) (pss_one (ps_ret (pe_lst (pa_cons pe_int (pa_cons (pe_op dl_add (pe_op dl_add (pv 0) (pv 1)) (pe_lst (pa_cons (pe_tup (pa_cons pe_int (pa_cons pe_int pa_nil))) (pa_cons (pe_tup (pa_cons pe_int (pa_cons pe_int pa_nil))) (pa_cons (pe_tup (pa_cons pe_int (pa_cons pe_int pa_nil))) (pa_cons (pe_tup (pa_cons pe_int (pa_cons pe_int pa_nil))) (pa_cons (pe_tup (pa_cons pe_int (pa_cons pe_int pa_nil))) pa_nil))))))) pa_nil)))))))
theorem sc__law_world : FnScope ["script", "one", "kind", "k", "first", "second", "order", "turn"] ["script"] (defScope s__law_world) := ⟨rfl, rfl, rfl, by decide +kernel, rfl, by decide +kernel, by decide +kernel⟩
def t__law_world (K : PySem.W.Frag) (sp__law_source sp__law_clique sp__law_rim sp__law_two_sides sp__law_order sp__law_mapped : Sp) : TS := tSeq (tAsg (tCall sp__law_source [] E0 (tCons (tVar 0) (tCons (tC (.int 0)) tNil))) (gName 1)) (tSeq (tAsg (tOp (rI (fun _ j => j ≠ 0) fun i j => .int (i.fmod j)) (tCB rInt1A (tCons (tVar 1) tNil)) (tC (.int 8))) (gName 2)) (tSeq (tAsg (tOp (rIxA K) (tLst (tCons (tC (.int 2)) (tCons (tC (.int 2)) (tCons (tC (.int 3)) (tCons (tC (.int 3)) (tCons (tC (.int 3)) (tCons (tC (.int 3)) (tCons (tC (.int 4)) (tCons (tC (.int 3)) tNil))))))))) (tVar 2)) (gName 3)) (tSeq (tAsg (tCall sp__law_clique [] E0 (tCons (tOp rAddA (tVar 3) (tC (.int 1))) tNil)) (gName 4)) (tSeq (tAsg (tCall sp__law_clique [] E0 (tCons (tOp rAddA (tVar 3) (tC (.int 1))) tNil)) (gName 5)) (tSeq (tIfS (tTest (tOp (rI0 fun i j => .bl (decide (i < j))) (tVar 2) (tC (.int 2)))) (tSeq (tAsg (tCall sp__law_rim [] E0 (tCons (tOp rAddA (tC (.int 3)) (tOp (rI CMul fun i j => .int (i * j)) (tC (.int 2)) (tOp (rI (fun _ j => j ≠ 0) fun i j => .int (i.fmod j)) (tOp (rI CDivN fun i j => .int (i.fdiv j)) (tCB rInt1A (tCons (tVar 1) tNil)) (tC (.int 8))) (tC (.int 2))))) (tCons (tC (.bl false)) tNil))) (gName 4)) (tAsg (tCall sp__law_rim [] E0 (tCons (tOp rAddA (tC (.int 3)) (tOp (rI CMul fun i j => .int (i * j)) (tC (.int 2)) (tOp (rI (fun _ j => j ≠ 0) fun i j => .int (i.fmod j)) (tOp (rI CDivN fun i j => .int (i.fdiv j)) (tCB rInt1A (tCons (tVar 1) tNil)) (tC (.int 16))) (tC (.int 2))))) (tCons (tC (.bl false)) tNil))) (gName 5))) (tNext)) (tSeq (tIfS (tTest (tOp (rEqD K) (tVar 2) (tC (.int 4)))) (tAsg (tCall sp__law_rim [] E0 (tCons (tC (.int 5)) (tCons (tC (.bl true)) tNil))) (gName 5)) (tNext)) (tSeq (tIfS (tTest (tOp (rEqD K) (tVar 2) (tC (.int 5)))) (tAsg (tCall sp__law_rim [] E0 (tCons (tC (.int 5)) (tCons (tC (.bl true)) tNil))) (gName 4)) (tNext)) (tSeq (tIfS (tTest (tOp (rEqD K) (tVar 2) (tC (.int 7)))) (tAsg (tCall sp__law_two_sides [] E0 tNil) (gName 5)) (tNext)) (tSeq (tAsg (tCall sp__law_order [] E0 (tCons (tOp (rIxA K) (tVar 5) (tC (.int 0))) (tCons (tCall sp__law_source [] E0 (tCons (tVar 0) (tCons (tC (.int 1)) tNil))) tNil))) (gName 6)) (tSeq (tAsg (tLst (tCons (tOp (rIxA K) (tVar 5) (tC (.int 0))) (tCons (tCall sp__law_mapped [] E0 (tCons (tOp (rIxA K) (tVar 5) (tC (.int 1))) (tCons (tVar 6) tNil))) tNil))) (gName 5)) (tSeq (tAsg (tCall sp__law_order [] E0 (tCons (tOp (rIxA K) (tVar 4) (tC (.int 0))) (tCons (tCall sp__law_source [] E0 (tCons (tVar 0) (tCons (tC (.int 2)) tNil))) tNil))) (gName 7)) (tSeq (tAsg (tLst (tCons (tOp (rIxA K) (tVar 4) (tC (.int 0))) (tCons (tCall sp__law_mapped [] E0 (tCons (tOp (rIxA K) (tVar 4) (tC (.int 1))) (tCons (tVar 7) tNil))) tNil))) (gName 4)) (tSeq (tIfS (tTest (tOp (rI0 fun i j => .bl (decide (i < j))) (tVar 2) (tC (.int 7)))) (tAsg (tLst (tNil)) (gName 6)) (tNext)) (tRet (tLst (tCons (tVar 3) (tCons (tVar 4) (tCons (tVar 5) (tCons (tVar 6) (tCons (tOp (rI CDivN fun i j => .int (i.fdiv j)) (tVar 1) (tC (.int 32))) tNil))))))))))))))))))))
theorem ok__law_world {sp sp__law_source sp__law_clique sp__law_rim sp__law_two_sides sp__law_order sp__law_mapped : Sp} (T : Tx K mg fa fn exB) (G__law_source : Good P w K mg base 1 (He.fAd K ("_law_source", none)) ["script", "place"] sp__law_source) (G__law_clique : Good P w K mg base 1 (He.fAd K ("_law_clique", none)) ["n"] sp__law_clique) (G__law_rim : Good P w K mg base 1 (He.fAd K ("_law_rim", none)) ["n", "hub"] sp__law_rim) (G__law_two_sides : Good P w K mg base 1 (He.fAd K ("_law_two_sides", none)) [] sp__law_two_sides) (G__law_order : Good P w K mg base 1 (He.fAd K ("_law_order", none)) ["n", "number"] sp__law_order) (G__law_mapped : Good P w K mg base 1 (He.fAd K ("_law_mapped", none)) ["pairs", "images"] sp__law_mapped)
    (rd : ∀ vs H Q E, sp vs H Q E → t__law_world K sp__law_source sp__law_clique sp__law_rim sp__law_two_sides sp__law_order sp__law_mapped { nx := fun _ H' => Q .non H', rt := Q } (L2.start ["script", "one", "kind", "k", "first", "second", "order", "turn"] vs) H) (len : ∀ vs H Q E, sp vs H Q E → vs.length = 1) : Good P w K mg base 2 (He.fAd K ("_law_world", none)) ["script"] sp :=
  T.good 39 d__law_world rfl rfl rfl (ps := ["script"]) (k := 1) sc__law_world (fun _ _ _ _ _ _ us hl => match us, hl with | [_], _ => rfl) len rd fun fd cdv A outer s H E hr =>
    (pss_cons (ps_set (i := 1) sc__law_world.nd rfl (by first | exact Or.inl rfl | exact Or.inr rfl) (pe_callG G__law_source (hr.mono (by decide)) (by rfl) (T.glo 23) (pa_cons (pv 0) (pa_cons pe_int pa_nil)))) (pss_cons (ps_set (i := 2) sc__law_world.nd rfl (by first | exact Or.inl rfl | exact Or.inr rfl) (pe_op op_modN (pe_callTy dl_int1 (by rfl) (T.free 51) (by decide +kernel) (pa_cons (pv 1) pa_nil)) pe_int)) (pss_cons (ps_set (i := 3) sc__law_world.nd rfl (by first | exact Or.inl rfl | exact Or.inr rfl) (pe_ix dl_ix (pe_lst (pa_cons pe_int (pa_cons pe_int (pa_cons pe_int (pa_cons pe_int (pa_cons pe_int (pa_cons pe_int (pa_cons pe_int (pa_cons pe_int pa_nil))))))))) (pv 2) (fun _ _ => rfl))) (pss_cons (ps_set (i := 4) sc__law_world.nd rfl (by first | exact Or.inl rfl | exact Or.inr rfl) (pe_callG G__law_clique (hr.mono (by decide)) (by rfl) (T.glo 29) (pa_cons (pe_op dl_add (pv 3) pe_int) pa_nil))) (pss_cons (ps_set (i := 5) sc__law_world.nd rfl (by first | exact Or.inl rfl | exact Or.inr rfl) (pe_callG G__law_clique (hr.mono (by decide)) (by rfl) (T.glo 29) (pa_cons (pe_op dl_add (pv 3) pe_int) pa_nil))) (pss_cons (ps_if (pt_cmpR op_lt (pv 2) pe_int (by first | exact nomark _ | rfl)) (pss_cons (ps_set (i := 4) sc__law_world.nd rfl (by first | exact Or.inl rfl | exact Or.inr rfl) (pe_callG G__law_rim (hr.mono (by decide)) (by rfl) (T.glo 30) (pa_cons (pe_op dl_add pe_int (pe_op op_mul pe_int (pe_op op_modN (pe_op op_fdivN (pe_callTy dl_int1 (by rfl) (T.free 51) (by decide +kernel) (pa_cons (pv 1) pa_nil)) pe_int) pe_int))) (pa_cons pe_bl pa_nil)))) (pss_one (ps_set (i := 5) sc__law_world.nd rfl (by first | exact Or.inl rfl | exact Or.inr rfl) (pe_callG G__law_rim (hr.mono (by decide)) (by rfl) (T.glo 30) (pa_cons (pe_op dl_add pe_int (pe_op op_mul pe_int (pe_op op_modN (pe_op op_fdivN (pe_callTy dl_int1 (by rfl) (T.free 51) (by decide +kernel) (pa_cons (pv 1) pa_nil)) pe_int) pe_int))) (pa_cons pe_bl pa_nil)))))) pss_nil) (pss_cons (ps_if (pt_cmpR (op_eqD hr.units) (pv 2) pe_int (by first | exact nomark _ | rfl)) (pss_one (ps_set (i := 5) sc__law_world.nd rfl (by first | exact Or.inl rfl | exact Or.inr rfl) (pe_callG G__law_rim (hr.mono (by decide)) (by rfl) (T.glo 30) (pa_cons pe_int (pa_cons pe_bl pa_nil))))) pss_nil) (pss_cons (ps_if (pt_cmpR (op_eqD hr.units) (pv 2) pe_int (by first | exact nomark _ | rfl)) (pss_one (ps_set (i := 4) sc__law_world.nd rfl (by first | exact Or.inl rfl | exact Or.inr rfl) (pe_callG G__law_rim (hr.mono (by decide)) (by rfl) (T.glo 30) (pa_cons pe_int (pa_cons pe_bl pa_nil))))) pss_nil) (pss_cons (ps_if (pt_cmpR (op_eqD hr.units) (pv 2) pe_int (by first | exact nomark _ | rfl)) (pss_one (ps_set (i := 5) sc__law_world.nd rfl (by first | exact Or.inl rfl | exact Or.inr rfl) (pe_callG0 G__law_two_sides (hr.mono (by decide)) (by rfl) (T.glo 34)))) pss_nil) (pss_cons (ps_set (i := 6) sc__law_world.nd rfl (by first | exact Or.inl rfl | exact Or.inr rfl) (pe_callG G__law_order (hr.mono (by decide)) (by rfl) (T.glo 27) (pa_cons (pe_ix dl_ix (pv 5) pe_int (fun _ _ => rfl)) (pa_cons (pe_callG G__law_source (hr.mono (by decide)) (by rfl) (T.glo 23) (pa_cons (pv 0) (pa_cons pe_int pa_nil))) pa_nil)))) (pss_cons (ps_set (i := 5) sc__law_world.nd rfl (by first | exact Or.inl rfl | exact Or.inr rfl) (pe_lst (pa_cons (pe_ix dl_ix (pv 5) pe_int (fun _ _ => rfl)) (pa_cons (pe_callG G__law_mapped (hr.mono (by decide)) (by rfl) (T.glo 28) (pa_cons (pe_ix dl_ix (pv 5) pe_int (fun _ _ => rfl)) (pa_cons (pv 6) pa_nil))) pa_nil)))) (pss_cons (ps_set (i := 7) sc__law_world.nd rfl (by first | exact Or.inl rfl | exact Or.inr rfl) (pe_callG G__law_order (hr.mono (by decide)) (by rfl) (T.glo 27) (pa_cons (pe_ix dl_ix (pv 4) pe_int (fun _ _ => rfl)) (pa_cons (pe_callG G__law_source (hr.mono (by decide)) (by rfl) (T.glo 23) (pa_cons (pv 0) (pa_cons pe_int pa_nil))) pa_nil)))) (pss_cons (ps_set (i := 4) sc__law_world.nd rfl (by first | exact Or.inl rfl | exact Or.inr rfl) (pe_lst (pa_cons (pe_ix dl_ix (pv 4) pe_int (fun _ _ => rfl)) (pa_cons (pe_callG G__law_mapped (hr.mono (by decide)) (by rfl) (T.glo 28) (pa_cons (pe_ix dl_ix (pv 4) pe_int (fun _ _ => rfl)) (pa_cons (pv 7) pa_nil))) pa_nil)))) (pss_cons (ps_if (pt_cmpR op_lt (pv 2) pe_int (by first | exact nomark _ | rfl)) (pss_one (ps_set (i := 6) sc__law_world.nd rfl (by first | exact Or.inl rfl | exact Or.inr rfl) (pe_lst pa_nil))) pss_nil) (pss_one (ps_ret (pe_lst (pa_cons (pv 3) (pa_cons (pv 4) (pa_cons (pv 5) (pa_cons (pv 6) (pa_cons (pe_op op_fdivN (pv 1) pe_int) pa_nil))))))))))))))))))))))
theorem sc__law_picked : FnScope ["first", "second", "order", "node", "number", "lots", "one"] ["first", "second", "order", "node", "number"] (defScope s__law_picked) := ⟨rfl, rfl, rfl, by decide +kernel, rfl, by decide +kernel, by decide +kernel⟩
def t__law_picked (K : PySem.W.Frag) (sp__law_lots sp__law_beside : Sp) : TS := tSeq (tAsg (tCall sp__law_lots [] E0 (tCons (tOp (rIxA K) (tCall sp__law_beside [] E0 (tCons (tOp (rIxA K) (tVar 1) (tC (.int 0))) (tCons (tOp (rIxA K) (tVar 1) (tC (.int 1))) tNil))) (tVar 3)) tNil)) (gName 5)) (tSeq (tIfS (tAnd (tTest (tOp (rEqD K) (tVar 2) (tLst (tNil)))) (tTest (tOp (rI0 fun i j => .bl (decide (i ≤ j))) (tOp rAddA (tOp (rIxA K) (tVar 0) (tC (.int 0))) (tOp (rIxA K) (tVar 1) (tC (.int 0)))) (tC (.int 8))))) (tRet (tVar 5)) (tNext)) (tSeq (tAsg (tOp (rIxA K) (tVar 5) (tOp (rI (fun _ j => j ≠ 0) fun i j => .int (i.fmod j)) (tCB rInt1A (tCons (tVar 4) tNil)) (tCB (rLenA K) (tCons (tVar 5) tNil)))) (gName 6)) (tSeq (tAsg (tOp (rI CDivN fun i j => .int (i.fdiv j)) (tVar 4) (tCB (rLenA K) (tCons (tVar 5) tNil))) (gName 4)) (tSeq (tIfS (tTest (tOp (rEqD K) (tVar 2) (tLst (tNil)))) (tRet (tLst (tCons (tVar 6) (tCons (tOp (rIxA K) (tVar 5) (tOp (rI (fun _ j => j ≠ 0) fun i j => .int (i.fmod j)) (tCB rInt1A (tCons (tVar 4) tNil)) (tCB (rLenA K) (tCons (tVar 5) tNil)))) tNil)))) (tNext)) (tSeq (tIfS (tTest (tOp (rEqD K) (tOp (rI (fun _ j => j ≠ 0) fun i j => .int (i.fmod j)) (tCB rInt1A (tCons (tVar 4) tNil)) (tC (.int 2))) (tC (.int 1)))) (tRet (tLst (tCons (tVar 6) (tCons (tCB (rSortA K) (tCons (tSl (rSlL K) (tVar 2) (tPart (tC (.int 1))) (tPart (tC (.int 4)))) tNil)) tNil)))) (tNext)) (tRet (tLst (tCons (tVar 6) (tCons (tCB (rSortA K) (tCons (tSl (rSlL K) (tVar 2) (tPart (tC (.int 4))) (tPart (tC (.int 7)))) tNil)) tNil)))))))))
theorem ok__law_picked {sp sp__law_lots sp__law_beside : Sp} (T : Tx K mg fa fn exB) (G__law_lots : Good P w K mg base 1 (He.fAd K ("_law_lots", none)) ["row"] sp__law_lots) (G__law_beside : Good P w K mg base 1 (He.fAd K ("_law_beside", none)) ["n", "pairs"] sp__law_beside)
    (rd : ∀ vs H Q E, sp vs H Q E → t__law_picked K sp__law_lots sp__law_beside { nx := fun _ H' => Q .non H', rt := Q } (L2.start ["first", "second", "order", "node", "number", "lots", "one"] vs) H) (len : ∀ vs H Q E, sp vs H Q E → vs.length = 5) : Good P w K mg base 2 (He.fAd K ("_law_picked", none)) ["first", "second", "order", "node", "number"] sp :=
  T.good 40 d__law_picked rfl rfl rfl (ps := ["first", "second", "order", "node", "number"]) (k := 1) sc__law_picked (fun _ _ _ _ _ _ us hl => match us, hl with | [_, _, _, _, _], _ => rfl) len rd fun fd cdv A outer s H E hr =>
    (pss_cons (ps_set (i := 5) sc__law_picked.nd rfl (by first | exact Or.inl rfl | exact Or.inr rfl) (pe_callG G__law_lots (hr.mono (by decide)) (by rfl) (T.glo 31) (pa_cons (pe_ix dl_ix (pe_callG G__law_beside (hr.mono (by decide)) (by rfl) (T.glo 26) (pa_cons (pe_ix dl_ix (pv 1) pe_int (fun _ _ => rfl)) (pa_cons (pe_ix dl_ix (pv 1) pe_int (fun _ _ => rfl)) pa_nil))) (pv 3) (fun _ _ => rfl)) pa_nil))) (pss_cons (ps_if (PW.pt (pw_and (pt_cmpR (op_eqD hr.units) (pv 2) (pe_lst pa_nil) (by first | exact nomark _ | rfl)) (pw_and1 (pt_cmpR op_le (pe_op dl_add (pe_ix dl_ix (pv 0) pe_int (fun _ _ => rfl)) (pe_ix dl_ix (pv 1) pe_int (fun _ _ => rfl))) pe_int (by first | exact nomark _ | rfl))))) (pss_one (ps_ret (pv 5))) pss_nil) (pss_cons (ps_set (i := 6) sc__law_picked.nd rfl (by first | exact Or.inl rfl | exact Or.inr rfl) (pe_ix dl_ix (pv 5) (pe_op op_modN (pe_callTy dl_int1 (by rfl) (T.free 51) (by decide +kernel) (pa_cons (pv 4) pa_nil)) (pe_callB dl_len (by rfl) (T.free 53) (by decide +kernel) (pa_cons (pv 5) pa_nil))) (fun _ _ => rfl))) (pss_cons (ps_set (i := 4) sc__law_picked.nd rfl (by first | exact Or.inl rfl | exact Or.inr rfl) (pe_op op_fdivN (pv 4) (pe_callB dl_len (by rfl) (T.free 53) (by decide +kernel) (pa_cons (pv 5) pa_nil)))) (pss_cons (ps_if (pt_cmpR (op_eqD hr.units) (pv 2) (pe_lst pa_nil) (by first | exact nomark _ | rfl)) (pss_one (ps_ret (pe_lst (pa_cons (pv 6) (pa_cons (pe_ix dl_ix (pv 5) (pe_op op_modN (pe_callTy dl_int1 (by rfl) (T.free 51) (by decide +kernel) (pa_cons (pv 4) pa_nil)) (pe_callB dl_len (by rfl) (T.free 53) (by decide +kernel) (pa_cons (pv 5) pa_nil))) (fun _ _ => rfl)) pa_nil))))) pss_nil) (pss_cons (ps_if (pt_cmpR (op_eqD hr.units) (pe_op op_modN (pe_callTy dl_int1 (by rfl) (T.free 51) (by decide +kernel) (pa_cons (pv 4) pa_nil)) pe_int) pe_int (by first | exact nomark _ | rfl)) (pss_one (ps_ret (pe_lst (pa_cons (pv 6) (pa_cons (pe_callB dl_sorted (by rfl) (T.free 58) (by decide +kernel) (pa_cons (pe_slice sl_list (pv 2) (po_some pe_int) (po_some pe_int)) pa_nil)) pa_nil))))) pss_nil) (pss_one (ps_ret (pe_lst (pa_cons (pv 6) (pa_cons (pe_callB dl_sorted (by rfl) (T.free 58) (by decide +kernel) (pa_cons (pe_slice sl_list (pv 2) (po_some pe_int) (po_some pe_int)) pa_nil)) pa_nil)))))))))))
theorem sc__law_answered : FnScope ["told", "row"] ["told", "row"] (defScope s__law_answered) := ⟨rfl, rfl, rfl, by decide +kernel, rfl, by decide +kernel, by decide +kernel⟩
def t__law_answered (K : PySem.W.Frag) (sp__law_wholes : Sp) : TS := tSeq (tIfS (tTest (tOp rIsNA (tVar 1) (tC .non))) (tRet (tOp rIsNA (tVar 0) (tC .non))) (tNext)) (tRet (tAndV (tCall sp__law_wholes [] E0 (tCons (tVar 0) tNil)) (tOp (rEqD K) (tVar 0) (tCB (rTupA K) (tCons (tVar 1) tNil)))))
theorem ok__law_answered {sp sp__law_wholes : Sp} (T : Tx K mg fa fn exB) (G__law_wholes : Good P w K mg base 2 (He.fAd K ("_law_wholes", none)) ["row"] sp__law_wholes)
    (rd : ∀ vs H Q E, sp vs H Q E → t__law_answered K sp__law_wholes { nx := fun _ H' => Q .non H', rt := Q } (L2.start ["told", "row"] vs) H) (len : ∀ vs H Q E, sp vs H Q E → vs.length = 2) : Good P w K mg base 3 (He.fAd K ("_law_answered", none)) ["told", "row"] sp :=
  T.good 41 d__law_answered rfl rfl rfl (ps := ["told", "row"]) (k := 2) sc__law_answered (fun _ _ _ _ _ _ us hl => match us, hl with | [_, _], _ => rfl) len rd fun fd cdv A outer s H E hr =>
    (pss_cons (ps_if (pt_cmpR dl_isN (pv 1) pe_non (by first | exact nomark _ | rfl)) (pss_one (ps_ret (pe_cmpR dl_isN (pv 0) pe_non (by first | exact nomark _ | rfl)))) pss_nil) (pss_one (ps_ret (pe_and (pe_callG G__law_wholes (hr.mono (by decide)) (by rfl) (T.glo 22) (pa_cons (pv 0) pa_nil)) (pe_one (pe_cmpR (op_eqD hr.units) (pv 0) (pe_callTy dl_tuple (by rfl) (T.free 59) (by decide +kernel) (pa_cons (pv 1) pa_nil)) (by first | exact nomark _ | rfl)))))))
theorem sc__law_lot_right : FnScope ["first", "second", "k", "joint", "moved", "number", "x", "y", "node", "n", "pairs", "one", "two", "lot", "graph", "split", "apart", "row", "said", "u", "v", "less", "told", "pair"] ["first", "second", "k", "joint", "moved", "number"] (defScope s__law_lot_right) := ⟨rfl, rfl, rfl, by decide +kernel, rfl, by decide +kernel, by decide +kernel⟩
def t__law_lot_right (K : PySem.W.Frag) (sp__law_joined sp_Graph___init__ sp_fused sp_divided sp__law_parted sp__law_form sp__law_colouring sp__law_answered sp_first_colouring sp_is_critical sp_Graph_without_edge : Sp) : TS := tSeq (tAsg (tVar 3) (gAny K 3 (gCons (gName 6) (gCons (gName 7) (gCons (gName 8) (gNil)))))) (tSeq (tAsg (tCall sp__law_joined [] E0 (tCons (tVar 0) (tCons (tVar 6) (tCons (tVar 7) (tCons (tVar 1) (tCons (tVar 8) (tCons (tVar 4) tNil))))))) (gAny K 2 (gCons (gName 9) (gCons (gName 10) (gNil))))) (tSeq (tAsg (tMake (He.ga K "Graph") sp_Graph___init__ [] E0 (tCons (tOp (rIxA K) (tVar 0) (tC (.int 0))) (tCons (tCB (rListA K) (tCons (tOp (rIxA K) (tVar 0) (tC (.int 1))) tNil)) tNil))) (gName 11)) (tSeq (tAsg (tMake (He.ga K "Graph") sp_Graph___init__ [] E0 (tCons (tOp (rIxA K) (tVar 1) (tC (.int 0))) (tCons (tCB (rListA K) (tCons (tOp (rIxA K) (tVar 1) (tC (.int 1))) tNil)) tNil))) (gName 12)) (tSeq (tAsg (tRevL K (tVar 4)) (gName 13)) (tSeq (tAsg (tCall sp_fused [] E0 (tCons (tVar 11) (tCons (tVar 6) (tCons (tVar 7) (tCons (tVar 12) (tCons (tVar 8) (tCons (tVar 13) tNil))))))) (gName 14)) (tSeq (tAsg (tCall sp_divided [] E0 (tCons (tVar 12) (tCons (tVar 8) (tCons (tVar 13) tNil)))) (gName 15)) (tSeq (tAsg (tCall sp__law_parted [] E0 (tCons (tVar 1) (tCons (tVar 8) (tCons (tVar 4) tNil)))) (gName 16)) (tSeq (tIfS (tOr (tTest (tOp (rNeD K) (tVar 13) (tRevL K (tVar 4)))) (tOr (tTest (tOp (rNeD K) (tCall sp__law_form [] E0 (tCons (tVar 11) tNil)) (tVar 0))) (tTest (tOp (rNeD K) (tCall sp__law_form [] E0 (tCons (tVar 12) tNil)) (tVar 1))))) (tRet (tC (.bl false))) (tNext)) (tSeq (tIfS (tOr (tTest (tOp (rNeD K) (tCall sp__law_form [] E0 (tCons (tVar 14) tNil)) (tLst (tCons (tVar 9) (tCons (tVar 10) tNil))))) (tTest (tOp (rNeD K) (tCall sp__law_form [] E0 (tCons (tVar 15) tNil)) (tVar 16)))) (tRet (tC (.bl false))) (tNext)) (tSeq (tAsg (tCall sp__law_colouring [] E0 (tCons (tOp (rIxA K) (tVar 16) (tC (.int 0))) (tCons (tOp (rIxA K) (tVar 16) (tC (.int 1))) (tCons (tVar 2) tNil)))) (gName 17)) (tSeq (tIfS (tNot (tTru K (tCall sp__law_answered [] E0 (tCons (tCall sp_first_colouring [] E0 (tCons (tVar 15) (tCons (tVar 2) tNil))) (tCons (tVar 17) tNil))))) (tRet (tC (.bl false))) (tNext)) (tSeq (tIfS (tTest (tOp rNotNA (tCall sp_first_colouring [] E0 (tCons (tVar 14) (tCons (tVar 2) tNil))) (tC .non))) (tRet (tC (.bl false))) (tNext)) (tSeq (tAsg (tCall sp_is_critical [] E0 (tCons (tVar 14) (tCons (tVar 2) tNil))) (gName 18)) (tSeq (tIfS (tOr (tNot (tTru K (tCB (rIsi K) (tCons (tVar 18) (tCons (tC (.ty "bool")) tNil))))) (tTest (tOp (rNeD K) (tVar 18) (tOp rNotNA (tVar 17) (tC .non))))) (tRet (tC (.bl false))) (tNext)) (tSeq (tAsg (tOp (rIxA K) (tVar 10) (tOp (rI (fun _ j => j ≠ 0) fun i j => .int (i.fmod j)) (tCB rInt1A (tCons (tVar 5) tNil)) (tCB (rLenA K) (tCons (tVar 10) tNil)))) (gAny K 2 (gCons (gName 19) (gCons (gName 20) (gNil))))) (tSeq (tAsg (tLc (iSeq K (tVar 10)) (gName 23) (tTest (tOp (rNeD K) (tVar 23) (tTup (tCons (tVar 19) (tCons (tVar 20) tNil))))) (tVar 23) [23]) (gName 21)) (tSeq (tAsg (tCall sp_first_colouring [] E0 (tCons (tMeth (He.ga K "Graph") "without_edge" sp_Graph_without_edge [] E0 (tVar 14) (tCons (tVar 20) (tCons (tVar 19) tNil))) (tCons (tVar 2) tNil))) (gName 22)) (tRet (tCall sp__law_answered [] E0 (tCons (tVar 22) (tCons (tCall sp__law_colouring [] E0 (tCons (tVar 9) (tCons (tVar 21) (tCons (tVar 2) tNil)))) tNil)))))))))))))))))))))
theorem ok__law_lot_right {sp sp__law_joined sp_Graph___init__ sp_fused sp_divided sp__law_parted sp__law_form sp__law_colouring sp__law_answered sp_first_colouring sp_is_critical sp_Graph_without_edge : Sp} (T : Tx K mg fa fn exB) (G__law_joined : Good P w K mg base 1 (He.fAd K ("_law_joined", none)) ["first", "x", "y", "second", "node", "moved"] sp__law_joined) (G_Graph___init__ : Good P w K mg base 4 (He.fAd K ("Graph", some "__init__")) ["self", "nodes", "edges"] sp_Graph___init__) (G_fused : Good P w K mg base 7 (He.fAd K ("fused", none)) ["first", "x", "y", "second", "node", "moved"] sp_fused) (G_divided : Good P w K mg base 6 (He.fAd K ("divided", none)) ["second", "node", "moved"] sp_divided) (G__law_parted : Good P w K mg base 1 (He.fAd K ("_law_parted", none)) ["second", "node", "moved"] sp__law_parted) (G__law_form : Good P w K mg base 3 (He.fAd K ("_law_form", none)) ["graph"] sp__law_form) (G__law_colouring : Good P w K mg base 1 (He.fAd K ("_law_colouring", none)) ["n", "pairs", "k"] sp__law_colouring) (G__law_answered : Good P w K mg base 3 (He.fAd K ("_law_answered", none)) ["told", "row"] sp__law_answered) (G_first_colouring : Good P w K mg base 3 (He.fAd K ("first_colouring", none)) ["graph", "k"] sp_first_colouring) (G_is_critical : Good P w K mg base 8 (He.fAd K ("is_critical", none)) ["graph", "k"] sp_is_critical) (G_Graph_without_edge : Good P w K mg base 6 (He.fAd K ("Graph", some "without_edge")) ["self", "u", "v"] sp_Graph_without_edge)
    (rd : ∀ vs H Q E, sp vs H Q E → t__law_lot_right K sp__law_joined sp_Graph___init__ sp_fused sp_divided sp__law_parted sp__law_form sp__law_colouring sp__law_answered sp_first_colouring sp_is_critical sp_Graph_without_edge { nx := fun _ H' => Q .non H', rt := Q } (L2.start ["first", "second", "k", "joint", "moved", "number", "x", "y", "node", "n", "pairs", "one", "two", "lot", "graph", "split", "apart", "row", "said", "u", "v", "less", "told", "pair"] vs) H) (len : ∀ vs H Q E, sp vs H Q E → vs.length = 6) : Good P w K mg base 9 (He.fAd K ("_law_lot_right", none)) ["first", "second", "k", "joint", "moved", "number"] sp :=
  T.good 42 d__law_lot_right rfl rfl rfl (ps := ["first", "second", "k", "joint", "moved", "number"]) (k := 8) sc__law_lot_right (fun _ _ _ _ _ _ us hl => match us, hl with | [_, _, _, _, _, _], _ => rfl) len rd fun fd cdv A outer s H E hr =>
    (pss_cons (ps_asg (pv 3) (pg_any rfl (pgs_cons (pg_name (i := 6) sc__law_lot_right.nd rfl (by first | exact Or.inl rfl | exact Or.inr rfl)) (pgs_cons (pg_name (i := 7) sc__law_lot_right.nd rfl (by first | exact Or.inl rfl | exact Or.inr rfl)) (pgs_cons (pg_name (i := 8) sc__law_lot_right.nd rfl (by first | exact Or.inl rfl | exact Or.inr rfl)) pgs_nil))))) (pss_cons (ps_asg (pe_callG G__law_joined (hr.mono (by decide)) (by rfl) (T.glo 32) (pa_cons (pv 0) (pa_cons (pv 6) (pa_cons (pv 7) (pa_cons (pv 1) (pa_cons (pv 8) (pa_cons (pv 4) pa_nil))))))) (pg_any rfl (pgs_cons (pg_name (i := 9) sc__law_lot_right.nd rfl (by first | exact Or.inl rfl | exact Or.inr rfl)) (pgs_cons (pg_name (i := 10) sc__law_lot_right.nd rfl (by first | exact Or.inl rfl | exact Or.inr rfl)) pgs_nil)))) (pss_cons (ps_set (i := 11) sc__law_lot_right.nd rfl (by first | exact Or.inl rfl | exact Or.inr rfl) (pe_makeG (T.mkr 42) G_Graph___init__ (hr.mono (by decide)) (by rfl) (T.glo 40) (pa_cons (pe_ix dl_ix (pv 0) pe_int (fun _ _ => rfl)) (pa_cons (pe_callTy (dl_list rfl) (by rfl) (T.free 54) (by decide +kernel) (pa_cons (pe_ix dl_ix (pv 0) pe_int (fun _ _ => rfl)) pa_nil)) pa_nil)))) (pss_cons (ps_set (i := 12) sc__law_lot_right.nd rfl (by first | exact Or.inl rfl | exact Or.inr rfl) (pe_makeG (T.mkr 42) G_Graph___init__ (hr.mono (by decide)) (by rfl) (T.glo 40) (pa_cons (pe_ix dl_ix (pv 1) pe_int (fun _ _ => rfl)) (pa_cons (pe_callTy (dl_list rfl) (by rfl) (T.free 54) (by decide +kernel) (pa_cons (pe_ix dl_ix (pv 1) pe_int (fun _ _ => rfl)) pa_nil)) pa_nil)))) (pss_cons (ps_set (i := 13) sc__law_lot_right.nd rfl (by first | exact Or.inl rfl | exact Or.inr rfl) (pe_revL (pv 4))) (pss_cons (ps_set (i := 14) sc__law_lot_right.nd rfl (by first | exact Or.inl rfl | exact Or.inr rfl) (pe_callG G_fused (hr.mono (by decide)) (by rfl) (T.glo 8) (pa_cons (pv 11) (pa_cons (pv 6) (pa_cons (pv 7) (pa_cons (pv 12) (pa_cons (pv 8) (pa_cons (pv 13) pa_nil)))))))) (pss_cons (ps_set (i := 15) sc__law_lot_right.nd rfl (by first | exact Or.inl rfl | exact Or.inr rfl) (pe_callG G_divided (hr.mono (by decide)) (by rfl) (T.glo 9) (pa_cons (pv 12) (pa_cons (pv 8) (pa_cons (pv 13) pa_nil))))) (pss_cons (ps_set (i := 16) sc__law_lot_right.nd rfl (by first | exact Or.inl rfl | exact Or.inr rfl) (pe_callG G__law_parted (hr.mono (by decide)) (by rfl) (T.glo 33) (pa_cons (pv 1) (pa_cons (pv 8) (pa_cons (pv 4) pa_nil))))) (pss_cons (ps_if (PW.pt (pw_or (pt_cmpR (op_neD hr.units) (pv 13) (pe_revL (pv 4)) (by first | exact nomark _ | rfl)) (pw_or (pt_cmpR (op_neD hr.units) (pe_callG G__law_form (hr.mono (by decide)) (by rfl) (T.glo 25) (pa_cons (pv 11) pa_nil)) (pv 0) (by first | exact nomark _ | rfl)) (pw_or1 (pt_cmpR (op_neD hr.units) (pe_callG G__law_form (hr.mono (by decide)) (by rfl) (T.glo 25) (pa_cons (pv 12) pa_nil)) (pv 1) (by first | exact nomark _ | rfl)))))) (pss_one (ps_ret pe_bl)) pss_nil) (pss_cons (ps_if (PW.pt (pw_or (pt_cmpR (op_neD hr.units) (pe_callG G__law_form (hr.mono (by decide)) (by rfl) (T.glo 25) (pa_cons (pv 14) pa_nil)) (pe_lst (pa_cons (pv 9) (pa_cons (pv 10) pa_nil))) (by first | exact nomark _ | rfl)) (pw_or1 (pt_cmpR (op_neD hr.units) (pe_callG G__law_form (hr.mono (by decide)) (by rfl) (T.glo 25) (pa_cons (pv 15) pa_nil)) (pv 16) (by first | exact nomark _ | rfl))))) (pss_one (ps_ret pe_bl)) pss_nil) (pss_cons (ps_set (i := 17) sc__law_lot_right.nd rfl (by first | exact Or.inl rfl | exact Or.inr rfl) (pe_callG G__law_colouring (hr.mono (by decide)) (by rfl) (T.glo 24) (pa_cons (pe_ix dl_ix (pv 16) pe_int (fun _ _ => rfl)) (pa_cons (pe_ix dl_ix (pv 16) pe_int (fun _ _ => rfl)) (pa_cons (pv 2) pa_nil))))) (pss_cons (ps_if (pt_not (dl_truth (pe_callG G__law_answered (hr.mono (by decide)) (by rfl) (T.glo 37) (pa_cons (pe_callG G_first_colouring (hr.mono (by decide)) (by rfl) (T.glo 17) (pa_cons (pv 15) (pa_cons (pv 2) pa_nil))) (pa_cons (pv 17) pa_nil))))) (pss_one (ps_ret pe_bl)) pss_nil) (pss_cons (ps_if (pt_cmpR dl_notN (pe_callG G_first_colouring (hr.mono (by decide)) (by rfl) (T.glo 17) (pa_cons (pv 14) (pa_cons (pv 2) pa_nil))) pe_non (by first | exact nomark _ | rfl)) (pss_one (ps_ret pe_bl)) pss_nil) (pss_cons (ps_set (i := 18) sc__law_lot_right.nd rfl (by first | exact Or.inl rfl | exact Or.inr rfl) (pe_callG G_is_critical (hr.mono (by decide)) (by rfl) (T.glo 18) (pa_cons (pv 14) (pa_cons (pv 2) pa_nil)))) (pss_cons (ps_if (PW.pt (pw_or (pt_not (dl_truth (pe_callB call_isi (by rfl) (T.free 52) (by decide +kernel) (pa_cons (pv 18) (pa_cons (pe_bltn (by rfl) (T.free 50) (by decide +kernel) rfl) pa_nil))))) (pw_or1 (pt_cmpR (op_neD hr.units) (pv 18) (pe_cmpR dl_notN (pv 17) pe_non (by first | exact nomark _ | rfl)) (by first | exact nomark _ | rfl))))) (pss_one (ps_ret pe_bl)) pss_nil) (pss_cons (ps_asg (pe_ix dl_ix (pv 10) (pe_op op_modN (pe_callTy dl_int1 (by rfl) (T.free 51) (by decide +kernel) (pa_cons (pv 5) pa_nil)) (pe_callB dl_len (by rfl) (T.free 53) (by decide +kernel) (pa_cons (pv 10) pa_nil))) (fun _ _ => rfl)) (pg_any rfl (pgs_cons (pg_name (i := 19) sc__law_lot_right.nd rfl (by first | exact Or.inl rfl | exact Or.inr rfl)) (pgs_cons (pg_name (i := 20) sc__law_lot_right.nd rfl (by first | exact Or.inl rfl | exact Or.inr rfl)) pgs_nil)))) (pss_cons (ps_setLc (i := 21) (own := [("pair", 23)]) rfl sc__law_lot_right.nd rfl rfl (sw_true rfl rfl rfl (by decide +kernel)) (pi_seq (pv 10)) (blkOk_by (N := ["first", "second", "k", "joint", "moved", "number", "x", "y", "node", "n", "pairs", "one", "two", "lot", "graph", "split", "apart", "row", "said", "u", "v", "less", "told", "pair"]) (sc := defScope s__law_lot_right) (by decide +kernel)) (fun _ _ _ _ _ => (pg_name (i := 23) sc__law_lot_right.nd rfl (by first | exact Or.inl rfl | exact Or.inr rfl))) (fun _ _ _ _ _ => (pts_one (pt_cmpR (op_neD hr.units) (pv 23) (pe_tup (pa_cons (pv 19) (pa_cons (pv 20) pa_nil))) (by first | exact nomark _ | rfl)))) (fun _ _ _ _ _ => (pv 23))) (pss_cons (ps_set (i := 22) sc__law_lot_right.nd rfl (by first | exact Or.inl rfl | exact Or.inr rfl) (pe_callG G_first_colouring (hr.mono (by decide)) (by rfl) (T.glo 17) (pa_cons (pe_methG (pv 14) (T.cls 41) (T.meth 48) G_Graph_without_edge (hr.mono (by decide)) (pa_cons (pv 20) (pa_cons (pv 19) pa_nil))) (pa_cons (pv 2) pa_nil)))) (pss_one (ps_ret (pe_callG G__law_answered (hr.mono (by decide)) (by rfl) (T.glo 37) (pa_cons (pv 22) (pa_cons (pe_callG G__law_colouring (hr.mono (by decide)) (by rfl) (T.glo 24) (pa_cons (pv 9) (pa_cons (pv 21) (pa_cons (pv 2) pa_nil)))) pa_nil)))))))))))))))))))))))
theorem sc_law : FnScope ["script", "k", "first", "second", "order", "number", "x", "y", "node", "part", "lots", "joint", "moved", "apart"] ["script"] (defScope s_law) := ⟨rfl, rfl, rfl, by decide +kernel, rfl, by decide +kernel, by decide +kernel⟩
def t_law (K : PySem.W.Frag) (sp__law_world sp_is_critical sp_Graph___init__ sp__law_picked sp__law_source sp__law_lot_right sp__law_parted sp__law_colouring : Sp) : TS := tSeq (tAsg (tCall sp__law_world [] E0 (tCons (tVar 0) tNil)) (gAny K 5 (gCons (gName 1) (gCons (gName 2) (gCons (gName 3) (gCons (gName 4) (gCons (gName 5) (gNil)))))))) (tSeq (tAsg (tOp (rIxA K) (tOp (rIxA K) (tVar 2) (tC (.int 1))) (tOp (rI (fun _ j => j ≠ 0) fun i j => .int (i.fmod j)) (tCB rInt1A (tCons (tVar 5) tNil)) (tCB (rLenA K) (tCons (tOp (rIxA K) (tVar 2) (tC (.int 1))) tNil)))) (gAny K 2 (gCons (gName 6) (gCons (gName 7) (gNil))))) (tSeq (tAsg (tOp (rI CDivN fun i j => .int (i.fdiv j)) (tVar 5) (tCB (rLenA K) (tCons (tOp (rIxA K) (tVar 2) (tC (.int 1))) tNil))) (gName 5)) (tSeq (tIfS (tTest (tOp (rEqD K) (tOp (rI (fun _ j => j ≠ 0) fun i j => .int (i.fmod j)) (tCB rInt1A (tCons (tVar 5) tNil)) (tC (.int 2))) (tC (.int 1)))) (tPar 6 7 (tCons (tVar 7) (tCons (tVar 6) tNil))) (tNext)) (tSeq (tAsg (tOp (rI (fun _ j => j ≠ 0) fun i j => .int (i.fmod j)) (tOp (rI CDivN fun i j => .int (i.fdiv j)) (tCB rInt1A (tCons (tVar 5) tNil)) (tC (.int 2))) (tOp (rIxA K) (tVar 3) (tC (.int 0)))) (gName 8)) (tSeq (tAsg (tOp (rI CDivN fun i j => .int (i.fdiv j)) (tOp (rI CDivN fun i j => .int (i.fdiv j)) (tVar 5) (tC (.int 2))) (tOp (rIxA K) (tVar 3) (tC (.int 0)))) (gName 5)) (tSeq (tIfS (tTest (tOp (rNeD K) (tVar 4) (tLst (tNil)))) (tAsg (tOp (rIxA K) (tVar 4) (tC (.int 0))) (gName 8)) (tNext)) (tSeq (tFor (iSeq K (tLst (tCons (tVar 2) (tCons (tVar 3) tNil)))) (gName 9) (tIfS (tTest (tOp rNotB (tCall sp_is_critical [] E0 (tCons (tMake (He.ga K "Graph") sp_Graph___init__ [] E0 (tCons (tOp (rIxA K) (tVar 9) (tC (.int 0))) (tCons (tCB (rListA K) (tCons (tOp (rIxA K) (tVar 9) (tC (.int 1))) tNil)) tNil))) (tCons (tVar 1) tNil))) (tC (.bl true)))) (tRet (tC (.bl false))) (tNext))) (tSeq (tAsg (tCall sp__law_picked [] E0 (tCons (tVar 2) (tCons (tVar 3) (tCons (tVar 4) (tCons (tVar 8) (tCons (tVar 5) tNil)))))) (gName 10)) (tSeq (tAsg (tCall sp__law_source [] E0 (tCons (tVar 0) (tCons (tC (.int 3)) tNil))) (gName 5)) (tSeq (tAsg (tLst (tCons (tVar 6) (tCons (tVar 7) (tCons (tVar 8) tNil)))) (gName 11)) (tSeq (tFor (iSeq K (tVar 10)) (gName 12) (tSeq (tIfS (tNot (tTru K (tCall sp__law_lot_right [] E0 (tCons (tVar 2) (tCons (tVar 3) (tCons (tVar 1) (tCons (tVar 11) (tCons (tVar 12) (tCons (tVar 5) tNil))))))))) (tRet (tC (.bl false))) (tNext)) (tAsg (tOp (rI CDivN fun i j => .int (i.fdiv j)) (tVar 5) (tC (.int 32))) (gName 5)))) (tSeq (tIfS (tTest (tOp (rEqD K) (tVar 4) (tLst (tNil)))) (tRet (tC (.bl true))) (tNext)) (tSeq (tAsg (tCall sp__law_parted [] E0 (tCons (tVar 3) (tCons (tVar 8) (tCons (tOp (rIxA K) (tVar 10) (tC (.int 1))) tNil)))) (gName 13)) (tRet (tOp rIsNA (tCall sp__law_colouring [] E0 (tCons (tOp (rIxA K) (tVar 13) (tC (.int 0))) (tCons (tOp (rIxA K) (tVar 13) (tC (.int 1))) (tCons (tVar 1) tNil)))) (tC .non))))))))))))))))
theorem ok_law {sp sp__law_world sp_is_critical sp_Graph___init__ sp__law_picked sp__law_source sp__law_lot_right sp__law_parted sp__law_colouring : Sp} (T : Tx K mg fa fn exB) (G__law_world : Good P w K mg base 2 (He.fAd K ("_law_world", none)) ["script"] sp__law_world) (G_is_critical : Good P w K mg base 8 (He.fAd K ("is_critical", none)) ["graph", "k"] sp_is_critical) (G_Graph___init__ : Good P w K mg base 4 (He.fAd K ("Graph", some "__init__")) ["self", "nodes", "edges"] sp_Graph___init__) (G__law_picked : Good P w K mg base 2 (He.fAd K ("_law_picked", none)) ["first", "second", "order", "node", "number"] sp__law_picked) (G__law_source : Good P w K mg base 1 (He.fAd K ("_law_source", none)) ["script", "place"] sp__law_source) (G__law_lot_right : Good P w K mg base 9 (He.fAd K ("_law_lot_right", none)) ["first", "second", "k", "joint", "moved", "number"] sp__law_lot_right) (G__law_parted : Good P w K mg base 1 (He.fAd K ("_law_parted", none)) ["second", "node", "moved"] sp__law_parted) (G__law_colouring : Good P w K mg base 1 (He.fAd K ("_law_colouring", none)) ["n", "pairs", "k"] sp__law_colouring)
    (rd : ∀ vs H Q E, sp vs H Q E → t_law K sp__law_world sp_is_critical sp_Graph___init__ sp__law_picked sp__law_source sp__law_lot_right sp__law_parted sp__law_colouring { nx := fun _ H' => Q .non H', rt := Q } (L2.start ["script", "k", "first", "second", "order", "number", "x", "y", "node", "part", "lots", "joint", "moved", "apart"] vs) H) (len : ∀ vs H Q E, sp vs H Q E → vs.length = 1) : Good P w K mg base 10 (He.fAd K ("law", none)) ["script"] sp :=
  T.good 43 d_law rfl rfl rfl (ps := ["script"]) (k := 9) sc_law (fun _ _ _ _ _ _ us hl => match us, hl with | [_], _ => rfl) len rd fun fd cdv A outer s H E hr =>
    (pss_cons (ps_asg (pe_callG G__law_world (hr.mono (by decide)) (by rfl) (T.glo 35) (pa_cons (pv 0) pa_nil)) (pg_any rfl (pgs_cons (pg_name (i := 1) sc_law.nd rfl (by first | exact Or.inl rfl | exact Or.inr rfl)) (pgs_cons (pg_name (i := 2) sc_law.nd rfl (by first | exact Or.inl rfl | exact Or.inr rfl)) (pgs_cons (pg_name (i := 3) sc_law.nd rfl (by first | exact Or.inl rfl | exact Or.inr rfl)) (pgs_cons (pg_name (i := 4) sc_law.nd rfl (by first | exact Or.inl rfl | exact Or.inr rfl)) (pgs_cons (pg_name (i := 5) sc_law.nd rfl (by first | exact Or.inl rfl | exact Or.inr rfl)) pgs_nil))))))) (pss_cons (ps_asg (pe_ix dl_ix (pe_ix dl_ix (pv 2) pe_int (fun _ _ => rfl)) (pe_op op_modN (pe_callTy dl_int1 (by rfl) (T.free 51) (by decide +kernel) (pa_cons (pv 5) pa_nil)) (pe_callB dl_len (by rfl) (T.free 53) (by decide +kernel) (pa_cons (pe_ix dl_ix (pv 2) pe_int (fun _ _ => rfl)) pa_nil))) (fun _ _ => rfl)) (pg_any rfl (pgs_cons (pg_name (i := 6) sc_law.nd rfl (by first | exact Or.inl rfl | exact Or.inr rfl)) (pgs_cons (pg_name (i := 7) sc_law.nd rfl (by first | exact Or.inl rfl | exact Or.inr rfl)) pgs_nil)))) (pss_cons (ps_set (i := 5) sc_law.nd rfl (by first | exact Or.inl rfl | exact Or.inr rfl) (pe_op op_fdivN (pv 5) (pe_callB dl_len (by rfl) (T.free 53) (by decide +kernel) (pa_cons (pe_ix dl_ix (pv 2) pe_int (fun _ _ => rfl)) pa_nil)))) (pss_cons (ps_if (pt_cmpR (op_eqD hr.units) (pe_op op_modN (pe_callTy dl_int1 (by rfl) (T.free 51) (by decide +kernel) (pa_cons (pv 5) pa_nil)) pe_int) pe_int (by first | exact nomark _ | rfl)) (pss_one (ps_par (i := 6) (j := 7) rfl sc_law.nd rfl rfl (by decide) rfl rfl (pa_cons (pv 7) (pa_cons (pv 6) pa_nil)) (by rfl))) pss_nil) (pss_cons (ps_set (i := 8) sc_law.nd rfl (by first | exact Or.inl rfl | exact Or.inr rfl) (pe_op op_modN (pe_op op_fdivN (pe_callTy dl_int1 (by rfl) (T.free 51) (by decide +kernel) (pa_cons (pv 5) pa_nil)) pe_int) (pe_ix dl_ix (pv 3) pe_int (fun _ _ => rfl)))) (pss_cons (ps_set (i := 5) sc_law.nd rfl (by first | exact Or.inl rfl | exact Or.inr rfl) (pe_op op_fdivN (pe_op op_fdivN (pv 5) pe_int) (pe_ix dl_ix (pv 3) pe_int (fun _ _ => rfl)))) (pss_cons (ps_if (pt_cmpR (op_neD hr.units) (pv 4) (pe_lst pa_nil) (by first | exact nomark _ | rfl)) (pss_one (ps_set (i := 8) sc_law.nd rfl (by first | exact Or.inl rfl | exact Or.inr rfl) (pe_ix dl_ix (pv 4) pe_int (fun _ _ => rfl)))) pss_nil) (pss_cons (ps_for PassesOwn.never rfl (pi_seq (pe_lst (pa_cons (pv 2) (pa_cons (pv 3) pa_nil)))) (pg_name (i := 9) sc_law.nd rfl (by first | exact Or.inl rfl | exact Or.inr rfl)) (pss_one (ps_if (pt_cmpR op_notBl (pe_callG G_is_critical (hr.mono (by decide)) (by rfl) (T.glo 18) (pa_cons (pe_makeG (T.mkr 42) G_Graph___init__ (hr.mono (by decide)) (by rfl) (T.glo 40) (pa_cons (pe_ix dl_ix (pv 9) pe_int (fun _ _ => rfl)) (pa_cons (pe_callTy (dl_list rfl) (by rfl) (T.free 54) (by decide +kernel) (pa_cons (pe_ix dl_ix (pv 9) pe_int (fun _ _ => rfl)) pa_nil)) pa_nil))) (pa_cons (pv 1) pa_nil))) pe_bl (by first | exact nomark _ | rfl)) (pss_one (ps_ret pe_bl)) pss_nil))) (pss_cons (ps_set (i := 10) sc_law.nd rfl (by first | exact Or.inl rfl | exact Or.inr rfl) (pe_callG G__law_picked (hr.mono (by decide)) (by rfl) (T.glo 36) (pa_cons (pv 2) (pa_cons (pv 3) (pa_cons (pv 4) (pa_cons (pv 8) (pa_cons (pv 5) pa_nil))))))) (pss_cons (ps_set (i := 5) sc_law.nd rfl (by first | exact Or.inl rfl | exact Or.inr rfl) (pe_callG G__law_source (hr.mono (by decide)) (by rfl) (T.glo 23) (pa_cons (pv 0) (pa_cons pe_int pa_nil)))) (pss_cons (ps_set (i := 11) sc_law.nd rfl (by first | exact Or.inl rfl | exact Or.inr rfl) (pe_lst (pa_cons (pv 6) (pa_cons (pv 7) (pa_cons (pv 8) pa_nil))))) (pss_cons (ps_for PassesOwn.never rfl (pi_seq (pv 10)) (pg_name (i := 12) sc_law.nd rfl (by first | exact Or.inl rfl | exact Or.inr rfl)) (pss_cons (ps_if (pt_not (dl_truth (pe_callG G__law_lot_right (hr.mono (by decide)) (by rfl) (T.glo 38) (pa_cons (pv 2) (pa_cons (pv 3) (pa_cons (pv 1) (pa_cons (pv 11) (pa_cons (pv 12) (pa_cons (pv 5) pa_nil))))))))) (pss_one (ps_ret pe_bl)) pss_nil) (pss_one (ps_set (i := 5) sc_law.nd rfl (by first | exact Or.inl rfl | exact Or.inr rfl) (pe_op op_fdivN (pv 5) pe_int))))) (pss_cons (ps_if (pt_cmpR (op_eqD hr.units) (pv 4) (pe_lst pa_nil) (by first | exact nomark _ | rfl)) (pss_one (ps_ret pe_bl)) pss_nil) (pss_cons (ps_set (i := 13) sc_law.nd rfl (by first | exact Or.inl rfl | exact Or.inr rfl) (pe_callG G__law_parted (hr.mono (by decide)) (by rfl) (T.glo 33) (pa_cons (pv 3) (pa_cons (pv 8) (pa_cons (pe_ix dl_ix (pv 10) pe_int (fun _ _ => rfl)) pa_nil))))) (pss_one (ps_ret (pe_cmpR dl_isN (pe_callG G__law_colouring (hr.mono (by decide)) (by rfl) (T.glo 24) (pa_cons (pe_ix dl_ix (pv 13) pe_int (fun _ _ => rfl)) (pa_cons (pe_ix dl_ix (pv 13) pe_int (fun _ _ => rfl)) (pa_cons (pv 1) pa_nil)))) pe_non (by first | exact nomark _ | rfl))))))))))))))))))
end
end HD
end
section
set_option Elab.async false
set_option linter.all false
set_option maxRecDepth 100000
set_option maxHeartbeats 4000000
/-! S1: what the checks and the graph's own defs promise, and that they keep it. -/
namespace HD
open PySem PySem.Spec L2 DL CM
abbrev GC (K : PySem.W.Frag) : Addr := He.ga K "Graph"
def nI (n : Nat) : D := .int (n : Int)
def pN (p : Nat × Nat) : D := .tup [nI p.1, nI p.2]
abbrev gNs : List Str := ["nodes", "edges", "_near"]
def gFs (n : Nat) (E : List Pr) : List D := [nI n, .tup (E.map pN), .tup ((near n E).map fun r => .tup (r.map nI))]
def gR (K : PySem.W.Frag) (n : Nat) (E : List Pr) : D := .obj (GC K) gNs (gFs n E)
/-- edges as a graph holds them -/
structure GOk (n : Nat) (E : List Pr) : Prop where
  le : n ≤ 48
  srt : Srt E
  lt : ∀ p ∈ E, p.1 < p.2 ∧ p.2 < n
  nd : E.Nodup
  few : E.length ≤ 2000
def less (E : List Pr) (e : Pr) : List Pr := E.filter fun p => decide (p ≠ e)
/-- edges as the constructor may be given them -/
structure EdIn (n : Nat) (E : List Pr) : Prop where
  lt : ∀ p ∈ E, p.1 < n ∧ p.2 < n ∧ p.1 ≠ p.2
  nd : (E.map norm).Nodup
  few : E.length ≤ 2000
def P_checked_number (ds : List D) (d : D) : Prop := ∃ a lo hi : Int, ds = [.int a, .int lo, .int hi] ∧ lo ≤ a ∧ a ≤ hi ∧ d = .int a
def P_checked_k (ds : List D) (d : D) : Prop := ∃ k : Nat, ds = [nI k] ∧ 1 ≤ k ∧ k ≤ 6 ∧ d = nI k
def P_checked_size (ds : List D) (d : D) : Prop := ∃ (xs : List D) (lo : Nat), ds = [.lst xs, nI lo, .non] ∧ lo ≤ xs.length ∧ d = .lst xs
def P_checked_node (ds : List D) (d : D) : Prop := ∃ u n : Nat, ds = [nI u, nI n] ∧ u < n ∧ d = nI u
def P_checked_pair (ds : List D) (d : D) : Prop := ∃ u v n : Nat, ds = [nI u, nI v, nI n] ∧ u < n ∧ v < n ∧ u ≠ v ∧ d = pN (norm (u, v))
def P_checked_lot (ds : List D) (d : D) : Prop := ∃ (xs : List Nat) (n : Nat), ds = [.lst (xs.map nI), nI n] ∧ (∀ x ∈ xs, x < n) ∧ xs.Nodup ∧ xs.length ≤ 2000 ∧ d = .tup ((sortN xs).map nI)
def P_graph_edges (ds : List D) (d : D) : Prop := ∃ (E : List Pr) (n : Nat), ds = [.lst (E.map pN), nI n] ∧ EdIn n E ∧ d = .tup ((sortE (E.map norm)).map pN)
def P_graph_near (ds : List D) (d : D) : Prop := ∃ (E : List Pr) (n : Nat), ds = [.tup (E.map pN), nI n] ∧ n ≤ 48 ∧ (∀ p ∈ E, p.1 < n ∧ p.2 < n ∧ p.1 ≠ p.2) ∧ E.length ≤ 2000 ∧ d = .tup ((near n E).map fun r => .tup (r.map nI))
def P_Graph_init (ds fs : List D) : Prop := ∃ (n : Nat) (E : List Pr), ds = [nI n, .lst (E.map pN)] ∧ n ≤ 48 ∧ EdIn n E ∧ fs = gFs n (sortE (E.map norm))
def P_Graph_adjacent (K : PySem.W.Frag) (ds : List D) (d : D) : Prop := ∃ (n : Nat) (E : List Pr) (u v : Nat), ds = [gR K n E, nI u, nI v] ∧ u < n ∧ v < n ∧ d = .bl ((nearOf u E).contains v)
def P_Graph_degree (K : PySem.W.Frag) (ds : List D) (d : D) : Prop := ∃ (n : Nat) (E : List Pr) (u : Nat), ds = [gR K n E, nI u] ∧ u < n ∧ d = nI (nearOf u E).length
def P_Graph_without_edge (K : PySem.W.Frag) (ds : List D) (d : D) : Prop := ∃ (n : Nat) (E : List Pr) (u v : Nat), ds = [gR K n E, nI u, nI v] ∧ GOk n E ∧ u < n ∧ v < n ∧ u ≠ v ∧ norm (u, v) ∈ E ∧ d = gR K n (less E (norm (u, v)))
section
variable {c : Ct} {A : Hp} {Γ : List Sl} {te ta tb : TE} {De : Ends} {t : TS}
theorem g_never (h : False) : GoS c A Γ t De := h.elim
theorem orF {a b : Bool} (h : (a || b) = true) (ha : a = false) (hb : b = false) : False := by rw [ha, hb] at h; cases h
end
section
variable {K : PySem.W.Frag}
abbrev En (rt : VK) : Ends := { nx := fun _ H' => rt .non H', rt := rt }
theorem r_checked_number : ∀ vs H Q E, spF K P_checked_number vs H Q E → t_checked_number K { nx := fun _ H' => Q .non H', rt := Q } (L2.start ["number", "low", "high"] vs) H :=
  rd_ofF fun c A ds d De hK hp hr hn => by
    obtain ⟨a, lo, hi, rfl, h1, h2, rfl⟩ := hp
    subst hK
    show GoS c A [.dat (.int a), .dat (.int lo), .dat (.int hi)] (t_checked_number c.K) De
    refine g_seq (g_if (et_or (et_test (ev_lt ev_var ev_var)) fun _ => et_test (ev_gt ev_var ev_var)) (fun e => g_never (orF e (decide_eq_false (by omega)) (decide_eq_false (by omega)))) fun _ => g_next (g_retF ev_var hr))
theorem r_checked_k : ∀ vs H Q E, spF K P_checked_k vs H Q E → t_checked_k K (spF K P_checked_number) { nx := fun _ H' => Q .non H', rt := Q } (L2.start ["k"] vs) H :=
  rd_ofF fun c A ds d De hK hp hr hn => by
    obtain ⟨k, rfl, h1, h2, rfl⟩ := hp
    subst hK
    show GoS c A [.dat (nI k)] (t_checked_k c.K _) De
    exact g_retF (ev_callF (ea_cons ev_var (ea_cons ev_int (ea_cons ev_int ea_nil))) ⟨k, 1, 6, rfl, by omega, by omega, rfl⟩) hr
theorem r_checked_size : ∀ vs H Q E, spF K P_checked_size vs H Q E → t_checked_size K { nx := fun _ H' => Q .non H', rt := Q } (L2.start ["entries", "low", "high", "count"] vs) H :=
  rd_ofF fun c A ds d De hK hp hr hn => by
    obtain ⟨xs, lo, rfl, h1, rfl⟩ := hp
    subst hK
    show GoS c A [.dat (.lst xs), .dat (nI lo), .dat .non, .any] (t_checked_size c.K) De
    refine q_set (ev_len (EvG.l ev_var)) ?_
    show GoS c A [.dat (.lst xs), .dat (nI lo), .dat .non, .dat (nI xs.length)] _ _
    refine q_no ((et_test (ev_lt ev_var ev_var)).is (decide_eq_false (by omega))) ?_
    refine q_no (et_andF ((et_test (ev_notNA (ev_var (d := .non)))).is rfl)) ?_
    exact g_retF (en_listL (EvG.l ev_var)).g hr
theorem r_checked_node : ∀ vs H Q E, spF K P_checked_node vs H Q E → t_checked_node K { nx := fun _ H' => Q .non H', rt := Q } (L2.start ["node", "nodes"] vs) H :=
  rd_ofF fun c A ds d De hK hp hr hn => by
    obtain ⟨u, n, rfl, h1, rfl⟩ := hp
    subst hK
    show GoS c A [.dat (nI u), .dat (nI n)] (t_checked_node c.K) De
    refine g_seq (g_if (et_or (et_test (ev_lt ev_var ev_int)) fun _ => et_test (ev_ge ev_var ev_var)) (fun e => g_never (orF e (decide_eq_false (by omega)) (decide_eq_false (by omega)))) fun _ => g_next (g_retF ev_var hr))
theorem nI_inj {a b : Nat} : nI a = nI b ↔ a = b := by
  unfold nI
  constructor
  · intro h; injection h with h; omega
  · intro h; rw [h]
theorem dt_nI (a : Nat) : (nI a).dt = true := rfl
theorem eqv_int (i j : Int) : PyData.eqv (.int i) (.int j) = decide (i = j) := by simp [PyData.eqv]; rfl
theorem ev_eqN {te ta : TE} {c : Ct} {A : Hp} {Γ : List Sl} {a b : Nat} (h1 : EvG c A Γ te (nI a)) (h2 : EvG c A Γ ta (nI b)) : EvG c A Γ (tOp (rEqD c.K) te ta) (.bl (decide (a = b))) :=
  (ev_eqD h1 h2 rfl rfl rfl rfl).is (by
    show D.bl (PyData.eqv (.int (a : Int)) (.int (b : Int))) = _
    rw [eqv_int]; congr 1; rw [decide_eq_decide]; omega)
theorem r_checked_pair : ∀ vs H Q E, spF K P_checked_pair vs H Q E → t_checked_pair K (spF K P_checked_node) { nx := fun _ H' => Q .non H', rt := Q } (L2.start ["u", "v", "nodes"] vs) H :=
  rd_ofF fun c A ds d De hK hp hr hn => by
    obtain ⟨u, v, n, rfl, h1, h2, h3, rfl⟩ := hp
    subst hK
    show GoS c A [.dat (nI u), .dat (nI v), .dat (nI n)] (t_checked_pair c.K _) De
    refine q_drop (ev_callF (ea_cons ev_var (ea_cons ev_var ea_nil)) ⟨u, n, rfl, h1, rfl⟩) ?_
    refine q_drop (ev_callF (ea_cons ev_var (ea_cons ev_var ea_nil)) ⟨v, n, rfl, h2, rfl⟩) ?_
    refine q_no ((et_test (ev_eqN ev_var ev_var)).is (decide_eq_false h3)) ?_
    refine q_if (et_test (ev_lt ev_var ev_var)) (fun e => ?_) fun e => ?_
    · have hlt : u < v := by have := of_decide_eq_true e; omega
      refine g_retF ((ev_tp (ea_cons ev_var (ea_cons ev_var ea_nil))).is ?_) hr
      rw [norm_lt (p := (u, v)) hlt]; rfl
    · have hlt : ¬ u < v := by have := of_decide_eq_false e; omega
      refine g_retF ((ev_tp (ea_cons ev_var (ea_cons ev_var ea_nil))).is ?_) hr
      rw [norm_gt (p := (u, v)) hlt]; rfl
/-! ### lists of nodes and of pairs, ints for the library -/
def castP (p : Pr) : Int × Int := ((p.1 : Int), (p.2 : Int))
theorem pN_eq (p : Pr) : pN p = dP (castP p) := rfl
theorem castP_inj {p q : Pr} (h : castP p = castP q) : p = q := by
  have h1 := congrArg Prod.fst h; have h2 := congrArg Prod.snd h
  
  exact Prod.ext (by have h3 : (p.1 : Int) = (q.1 : Int) := h1; omega) (by have h3 : (p.2 : Int) = (q.2 : Int) := h2; omega)
theorem lexB_cast (p q : Pr) : SrtO.lexB (castP p) (castP q) = plt p q := by
  rw [Bool.eq_iff_iff, SrtO.lexB_iff, plt_iff]
  show ((p.1 : Int) < (q.1 : Int) ∨ (p.1 : Int) = (q.1 : Int) ∧ (p.2 : Int) < (q.2 : Int)) ↔ _
  omega
theorem srtI_uniq : ∀ {l m : List (Int × Int)}, l.Perm m → l.Pairwise (fun x y => SrtO.lexB y x = false) → m.Pairwise (fun x y => SrtO.lexB y x = false) → l = m
  | [], m, h, _, _ => h.nil_eq
  | p :: l, [], h, _, _ => by have := h.length_eq; simp at this
  | p :: l, q :: m, h, hl, hm => by
    have hl' := List.pairwise_cons.mp hl
    have hm' := List.pairwise_cons.mp hm
    have e : p = q := by
      rcases List.mem_cons.mp (h.mem_iff.mp (List.mem_cons_self ..)) with e | h1
      · exact e
      · rcases List.mem_cons.mp (h.mem_iff.mpr (List.mem_cons_self ..)) with e | h2
        · exact e.symm
        · have a := hm'.1 p h1
          have b := hl'.1 q h2
          rw [SrtO.lexB_no] at a b
          exact Prod.ext (by omega) (by omega)
    subst e
    rw [srtI_uniq (List.Perm.cons_inv h) hl'.2 hm'.2]
theorem en_sortE {c : Ct} {A : Hp} {Γ : List Sl} {ta : TE} {E : List Pr} (h : EvL c A Γ ta (E.map pN)) : EvN c A Γ (tCB (rSortA c.K) (tCons ta tNil)) ((sortE E).map pN) := by
  have e : ∀ l : List Pr, l.map pN = (l.map castP).map dP := fun l => by rw [List.map_map]; rfl
  rw [e] at h
  refine (en_sortP (qs := (sortE E).map castP) h fun l h1 h2 => ?_).is (by rw [e])
  refine srtI_uniq (h1.trans ((sortE_perm E).symm.map castP)) h2 ?_
  refine List.pairwise_map.mpr ((sortE_srt E).imp fun {a b} hab => ?_)
  rw [lexB_cast]; exact hab
theorem intsU : ∀ {l m : List Int}, l.Perm m → l.Pairwise (· ≤ ·) → m.Pairwise (· ≤ ·) → l = m
  | [], m, h, _, _ => h.nil_eq
  | p :: l, [], h, _, _ => by have := h.length_eq; simp at this
  | p :: l, q :: m, h, hl, hm => by
    have hl' := List.pairwise_cons.mp hl
    have hm' := List.pairwise_cons.mp hm
    have e : p = q := by
      rcases List.mem_cons.mp (h.mem_iff.mp (List.mem_cons_self ..)) with e | h1
      · exact e
      · rcases List.mem_cons.mp (h.mem_iff.mpr (List.mem_cons_self ..)) with e | h2
        · exact e.symm
        · have a := hm'.1 p h1
          have b := hl'.1 q h2
          omega
    subst e
    rw [intsU (List.Perm.cons_inv h) hl'.2 hm'.2]
theorem en_sortNs {c : Ct} {A : Hp} {Γ : List Sl} {ta : TE} {xs : List Nat} (h : EvL c A Γ ta (xs.map nI)) : EvN c A Γ (tCB (rSortA c.K) (tCons ta tNil)) ((sortN xs).map nI) := by
  have e : ∀ l : List Nat, l.map nI = (l.map fun n : Nat => (n : Int)).map D.int := fun l => by rw [List.map_map]; rfl
  rw [e] at h
  refine (en_sortI (ms := (sortN xs).map fun n : Nat => (n : Int)) h fun l h1 h2 => ?_).is (by rw [e])
  have hs : ((sortN xs).map fun n : Nat => (n : Int)).Pairwise (· ≤ ·) := List.pairwise_map.mpr ((sortN_srt xs).imp fun {a b} hab => by omega)
  exact intsU (h1.trans ((sortN_perm xs).symm.map _)) h2 hs
theorem contains_nI (xs : List Nat) (x : Nat) : (xs.map fun n : Nat => (n : Int)).contains (x : Int) = xs.contains x := by
  induction xs with
  | nil => rfl
  | cons y ys ih =>
    rw [List.map_cons, List.contains_cons, List.contains_cons, ih]
    congr 1
    rw [Bool.eq_iff_iff, beq_iff_eq, beq_iff_eq]; omega
theorem ev_inLN {c : Ct} {A : Hp} {Γ : List Sl} {ta tb : TE} {x : Nat} {xs : List Nat} (ha : EvG c A Γ ta (nI x)) (hb : EvL c A Γ tb (xs.map nI)) : EvG c A Γ (tOp (rIn c.K false) ta tb) (.bl (xs.contains x)) := by
  have e : xs.map nI = (xs.map fun n : Nat => (n : Int)).map D.int := by rw [List.map_map]; rfl
  rw [e] at hb
  exact (ev_inL ha hb).is (by rw [contains_nI])
theorem ev_niLN {c : Ct} {A : Hp} {Γ : List Sl} {ta tb : TE} {x : Nat} {xs : List Nat} (ha : EvG c A Γ ta (nI x)) (hb : EvL c A Γ tb (xs.map nI)) : EvG c A Γ (tOp (rIn c.K true) ta tb) (.bl (!xs.contains x)) := by
  have e : xs.map nI = (xs.map fun n : Nat => (n : Int)).map D.int := by rw [List.map_map]; rfl
  rw [e] at hb
  exact (ev_niL ha hb).is (by rw [contains_nI])
theorem ev_inTN {c : Ct} {A : Hp} {Γ : List Sl} {ta tb : TE} {x : Nat} {xs : List Nat} (ha : EvG c A Γ ta (nI x)) (hb : EvG c A Γ tb (.tup (xs.map nI))) : EvG c A Γ (tOp (rIn c.K false) ta tb) (.bl (xs.contains x)) := by
  have e : xs.map nI = (xs.map fun n : Nat => (n : Int)).map D.int := by rw [List.map_map]; rfl
  rw [e] at hb
  exact (ev_inT ha hb).is (by rw [contains_nI])
theorem ev_niTN {c : Ct} {A : Hp} {Γ : List Sl} {ta tb : TE} {x : Nat} {xs : List Nat} (ha : EvG c A Γ ta (nI x)) (hb : EvG c A Γ tb (.tup (xs.map nI))) : EvG c A Γ (tOp (rIn c.K true) ta tb) (.bl (!xs.contains x)) := by
  have e : xs.map nI = (xs.map fun n : Nat => (n : Int)).map D.int := by rw [List.map_map]; rfl
  rw [e] at hb
  exact (ev_niT ha hb).is (by rw [contains_nI])
theorem r_checked_lot : ∀ vs H Q E, spF K P_checked_lot vs H Q E → t_checked_lot K (spF K P_checked_node) { nx := fun _ H' => Q .non H', rt := Q } (L2.start ["entries", "nodes", "lot", "node"] vs) H :=
  rd_ofF fun c A ds d De hK hp hr hn => by
    obtain ⟨xs, n, rfl, h1, h2, h3, rfl⟩ := hp
    subst hK
    show GoS c A [.dat (.lst (xs.map nI)), .dat (nI n), .any, .any] (t_checked_lot c.K _) De
    refine q_setN (en_ls ea_nil) ?_
    refine q_for xs nI (fun i => [.dat (.lst (xs.map nI)), .dat (nI n), .own ((xs.take i).map nI), .any]) (fun i x => [.dat (.lst (xs.map nI)), .dat (nI n), .own ((xs.take i).map nI), .dat (nI x)]) ev_var (Wk.refl _) (js := [3]) (fun i x A' hx => gg_name (Γ := [.dat (.lst (xs.map nI)), .dat (nI n), .own ((xs.take i).map nI), .any]) (by simp)) (fun i x A' De' hx hrt hnx hct hbk => ?_) ?_
    · have hxm := List.mem_of_getElem? hx
      refine q_drop (ev_callF (ea_cons ev_var (ea_cons ev_var ea_nil)) ⟨x, n, rfl, h1 x hxm, rfl⟩) ?_
      have ht : x ∉ xs.take i := fun hm => by
        obtain ⟨j, hj⟩ := List.getElem?_of_mem hm
        have hlt : j < i := by
          have := (List.getElem?_eq_some_iff.mp hj).1
          rw [List.length_take] at this; omega
        rw [List.getElem?_take_of_lt hlt] at hj
        have := nd_ix h2 hj hx
        omega
      refine q_no ((et_test (ev_inLN (xs := xs.take i) ev_var ev_own)).is (by simpa using ht)) ?_
      refine g_app rfl ev_var (by rw [List.length_map, List.length_take]; omega) (n_wk ?_ hnx)
      rw [List.take_add_one, hx, List.map_append]
      exact .same (.same (.same (.any .nil)))
    · rw [List.take_length]
      exact g_retF (ev_tupleL (en_sortNs (xs := xs) ev_own).l) hr
end
end HD
end
section
set_option Elab.async false
set_option linter.all false
set_option maxRecDepth 100000
set_option maxHeartbeats 4000000
/-! S2: the graph's making and its methods. -/
namespace HD
open PySem PySem.Spec L2 DL CM
section
variable {K : PySem.W.Frag}
theorem ga_pair {c : Ct} {A : Hp} {Γ : List Sl} {i j : Nat} (p : Nat × Nat) (hi : i < Γ.length := by simp) (hj : j < Γ.length := by simp) : GoG c A Γ (gAny c.K 2 (gCons (gName i) (gCons (gName j) gNil))) (pN p) ((Γ.set i (.dat (nI p.1))).set j (.dat (nI p.2))) [i, j] :=
  ga_tup (gs_cons (gg_name hi) (gs_cons (gg_name (by rw [List.length_set]; exact hj)) gs_nil)) rfl
theorem ev_pair {c : Ct} {A : Hp} {Γ : List Sl} {ta tb : TE} {u v : Nat} (h1 : EvG c A Γ ta (nI u)) (h2 : EvG c A Γ tb (nI v)) : EvG c A Γ (tTup (tCons ta (tCons tb tNil))) (pN (u, v)) := ev_tp (ea_cons h1 (ea_cons h2 ea_nil))
theorem map_castP_contains {l : List Pr} {p : Pr} (h : p ∉ l) : (l.map castP).contains (castP p) = false := by
  rw [List.contains_eq_mem, decide_eq_false_iff_not]
  intro hm
  obtain ⟨q, hq, e⟩ := List.mem_map.mp hm
  rw [castP_inj e] at hq; exact h hq
theorem r_graph_edges : ∀ vs H Q E, spF K P_graph_edges vs H Q E → t_graph_edges K (spF K P_checked_pair) { nx := fun _ H' => Q .non H', rt := Q } (L2.start ["edges", "nodes", "taken", "u", "v", "first", "second"] vs) H :=
  rd_ofF fun c A ds d De hK hp hr hn => by
    obtain ⟨E, n, rfl, ⟨h1, h2, h3⟩, rfl⟩ := hp
    subst hK
    show GoS c A [.dat (.lst (E.map pN)), .dat (nI n), .any, .any, .any, .any, .any] (t_graph_edges c.K _) De
    refine g_seq (g_setD (by simp) ?_)
    refine q_for E pN (fun i => [.dat (.lst (E.map pN)), .dat (nI n), .dic (((E.take i).map norm).map castP), .any, .any, .any, .any]) (fun i p => [.dat (.lst (E.map pN)), .dat (nI n), .dic (((E.take i).map norm).map castP), .dat (nI p.1), .dat (nI p.2), .any, .any])
      ev_var (Wk.refl _) (js := [3, 4]) (fun i x A' hx => ga_pair (Γ := [.dat (.lst (E.map pN)), .dat (nI n), .dic (((E.take i).map norm).map castP), .any, .any, .any, .any]) x) (fun i p A' De' hx hrt hnx hct hbk => ?_) ?_
    · have hm := List.mem_of_getElem? hx
      obtain ⟨a1, a2, a3⟩ := h1 p hm
      refine q_asg (js := [5, 6]) (ev_callF (ea_cons ev_var (ea_cons ev_var (ea_cons ev_var ea_nil))) ⟨p.1, p.2, n, rfl, a1, a2, a3, rfl⟩) (ga_pair (norm p)) ?_
      have hx' : (E.map norm)[i]? = some (norm p) := by rw [List.getElem?_map, hx]; rfl
      have ht : norm p ∉ (E.take i).map norm := fun hm => by
        rw [List.map_take] at hm
        obtain ⟨j, hj⟩ := List.getElem?_of_mem hm
        have hlt : j < i := by
          have := (List.getElem?_eq_some_iff.mp hj).1
          rw [List.length_take] at this; omega
        rw [List.getElem?_take_of_lt hlt] at hj
        have := nd_ix h2 hj hx'
        omega
      have hk : (((E.take i).map norm).map castP).contains (castP (norm p)) = false := map_castP_contains ht
      refine q_no ((et_din (p := castP (norm p)) (ev_pair ev_var ev_var) rfl).is hk) ?_
      refine g_dput (p := castP (norm p)) (ev_pair ev_var ev_var) rfl hk ?_ (n_wk ?_ hnx)
      · rw [List.length_map, List.length_map, List.length_take]; omega
      · rw [List.take_add_one, hx, List.map_append, List.map_append]
        exact .same (.same (.same (.any (.any (.any (.any .nil))))))
    · rw [List.take_length]
      have e : ((E.map norm).map castP).map dP = (E.map norm).map pN := by rw [List.map_map]; rfl
      have hl := (en_listD (c := c) (A := A) (Γ := [.dat (.lst (E.map pN)), .dat (nI n), .dic ((E.map norm).map castP), .any, .any, .any, .any]) (i := 2) rfl).is e
      exact g_retF (ev_tupleL (en_sortE hl.l).l) hr
theorem filter_true {α : Type} (l : List α) : l.filter (fun _ => true) = l := List.filter_eq_self.mpr fun _ _ => rfl
theorem r_graph_near : ∀ vs H Q E, spF K P_graph_near vs H Q E → t_graph_near K { nx := fun _ H' => Q .non H', rt := Q } (L2.start ["edges", "nodes", "near", "u", "v", "_", "row"] vs) H :=
  rd_ofF fun c A ds d De hK hp hr hn => by
    obtain ⟨E, n, rfl, h0, h1, h2, rfl⟩ := hp
    subst hK
    show GoS c A [.dat (.tup (E.map pN)), .dat (nI n), .any, .any, .any, .any, .any] (t_graph_near c.K) De
    refine g_seq (g_set2 (n := n) ev_var (by omega) (by simp) ?_)
    refine q_forT E pN (fun i => [.dat (.tup (E.map pN)), .dat (nI n), .own2 ((near n (E.take i)).map (·.map nI)), .any, .any, .any, .any]) (fun i p => [.dat (.tup (E.map pN)), .dat (nI n), .own2 ((near n (E.take i)).map (·.map nI)), .dat (nI p.1), .dat (nI p.2), .any, .any])
      ev_var ?_ (js := [3, 4]) (fun i x A' hx => ga_pair (Γ := [.dat (.tup (E.map pN)), .dat (nI n), .own2 ((near n (E.take i)).map (·.map nI)), .any, .any, .any, .any]) x) (fun i p A' De' hx hrt hnx hct hbk => ?_) ?_
    · rw [List.take_zero, near_nil, List.map_replicate]
      exact Wk.refl _
    · have hm := List.mem_of_getElem? hx
      obtain ⟨a1, a2, a3⟩ := h1 p hm
      have hlen : ∀ w, (nearOf w (E.take i)).length ≤ 4000 := fun w => by
        unfold nearOf
        have : ∀ l : List Pr, (l.flatMap fun p => if p.1 = w then [p.2] else if p.2 = w then [p.1] else []).length ≤ l.length := fun l => by
          induction l with
          | nil => exact Nat.le_refl _
          | cons q l ih =>
            rw [List.flatMap_cons, List.length_append, List.length_cons]
            have : (if q.1 = w then [q.2] else if q.2 = w then [q.1] else []).length ≤ 1 := by
              split
              · exact Nat.le_refl _
              · split
                · exact Nat.le_refl _
                · exact Nat.zero_le _
            omega
        have h3 := this (E.take i)
        rw [List.length_take] at h3
        omega
      have e1 : ((near n (E.take i)).map (·.map nI))[p.1]? = some ((nearOf p.1 (E.take i)).map nI) := by rw [List.getElem?_map, near_at a1]; rfl
      refine g_seq (g_app2 (u := p.1) rfl ev_var e1 ev_var (by rw [List.length_map]; have := hlen p.1; omega) ?_)
      have e2 : (((near n (E.take i)).map (·.map nI)).set p.1 ((nearOf p.1 (E.take i)).map nI ++ [nI p.2]))[p.2]? = some ((nearOf p.2 (E.take i)).map nI) := by
        rw [List.getElem?_set_ne a3, List.getElem?_map, near_at a2]; rfl
      refine g_app2 (u := p.2) rfl ev_var e2 ev_var (by rw [List.length_map]; have := hlen p.2; omega) (n_wk ?_ hnx)
      have e3 : (near n (E.take (i + 1))).map (·.map nI) = (((near n (E.take i)).map (·.map nI)).set p.1 ((nearOf p.1 (E.take i)).map nI ++ [nI p.2])).set p.2 ((nearOf p.2 (E.take i)).map nI ++ [nI p.1]) := by
        rw [List.take_add_one, hx]
        show (near n (E.take i ++ [p])).map _ = _
        rw [near_step (u := p.1) (v := p.2) a1 a2 a3, List.map_set, List.map_set, List.map_append, List.map_append]
        rfl
      rw [e3]
      exact .same (.same (.same (.any (.any (.any (.any .nil))))))
    · rw [List.take_length]
      refine g_freeze2 (i := 2) rfl ?_
      show GoS c A [.dat (.tup (E.map pN)), .dat (nI n), .dat (.lst (((near n E).map (·.map nI)).map D.lst)), .any, .any, .any, .any] _ _
      have eL : ((near n E).map (·.map nI)).map D.lst = (near n E).map fun r => .lst (r.map nI) := by rw [List.map_map]; rfl
      rw [eL]
      refine g_retF (ev_tupleL ((en_lcS (near n E) (fun r => .lst (r.map nI)) (fun _ => true) (fun r => .tup (r.map nI)) (fun r => [.dat (.tup (E.map pN)), .dat (nI n), .dat (.lst ((near n E).map fun r => .lst (r.map nI))), .any, .any, .any, .dat (.lst (r.map nI))])
        ev_var (js := [6]) (by simp) (by rw [near_len]; omega) (fun x A' hx => gg_name (Γ := [.dat (.tup (E.map pN)), .dat (nI n), .dat (.lst ((near n E).map fun r => .lst (r.map nI))), .any, .any, .any, .any]) (by simp)) (fun x A' hx => et_yes) (fun x A' hx _ => ev_tupleL (EvG.l ev_var))).is (by rw [filter_true])).l) hr
end
end HD
end
section
set_option Elab.async false
set_option linter.all false
set_option maxRecDepth 100000
set_option maxHeartbeats 4000000
/-! S3: the graph's class. -/
namespace HD
open PySem PySem.Spec L2 DL CM
theorem map_norm_id {E : List Pr} (h : ∀ p ∈ E, p.1 < p.2) : E.map norm = E := by
  conv => rhs; rw [← List.map_id E]
  exact List.map_congr_left fun p hp => norm_lt (h p hp)
theorem GOk.norm {n : Nat} {E : List Pr} (h : GOk n E) : E.map CM.norm = E := map_norm_id fun p hp => (h.lt p hp).1
theorem GOk.ed {n : Nat} {E : List Pr} (h : GOk n E) : EdIn n E := ⟨fun p hp => by have := h.lt p hp; omega, by rw [h.norm]; exact h.nd, h.few⟩
theorem GOk.sort {n : Nat} {E : List Pr} (h : GOk n E) : sortE (E.map CM.norm) = E := by rw [h.norm]; exact sortE_id h.srt
theorem GOk.less {n : Nat} {E : List Pr} (h : GOk n E) (e : Pr) : GOk n (less E e) := ⟨h.le, h.srt.filter _, fun p hp => h.lt p (List.mem_filter.mp hp).1, h.nd.filter _, Nat.le_trans (List.length_filter_le _ _) h.few⟩
theorem EdIn.ok {n : Nat} {E : List Pr} (h : EdIn n E) (h0 : n ≤ 48) : GOk n (sortE (E.map CM.norm)) := by
  refine ⟨h0, sortE_srt _, fun p hp => ?_, sortE_nodup.mpr h.nd, by rw [sortE_len, List.length_map]; exact h.few⟩
  obtain ⟨q, hq, rfl⟩ := List.mem_map.mp (sortE_mem.mp hp)
  obtain ⟨a, b, c⟩ := h.lt q hq
  refine ⟨norm_ord c, ?_⟩
  unfold CM.norm; split
  · exact b
  · exact a
structure GF (K : PySem.W.Frag) : Prop where
  cl : Cls K (GC K)
  n1 : NoAttr K (GC K) "nodes"
  n2 : NoAttr K (GC K) "edges"
  n3 : NoAttr K (GC K) "_near"
  ins : InsK K (GC K)
theorem EdIn.out {n : Nat} {E : List Pr} (h : EdIn n E) : ∀ p ∈ sortE (E.map norm), p.1 < n ∧ p.2 < n ∧ p.1 ≠ p.2 := fun p hp => by
  obtain ⟨q, hq, rfl⟩ := List.mem_map.mp (sortE_mem.mp hp)
  obtain ⟨a, b, c⟩ := h.lt q hq
  unfold norm; split
  · exact ⟨a, b, c⟩
  · exact ⟨b, a, fun e => c e.symm⟩
section
variable {K : PySem.W.Frag} (gf : GF K)
include gf
theorem r_Graph_init : ∀ vs H Q E, spIF K (GC K) gNs P_Graph_init vs H Q E → t_Graph___init__ K (spF K P_checked_number) (spF K P_graph_edges) (spF K P_graph_near) { nx := fun _ H' => Q .non H', rt := Q } (L2.start ["self", "nodes", "edges"] vs) H :=
  rd_initF fun c A x dx ds fs De hK hp hr => by
    obtain ⟨n, E, rfl, h0, h1, rfl⟩ := hp
    subst hK
    show GoS c A [.mk x dx (GC c.K) [] [], .dat (nI n), .dat (.lst (E.map pN))] (t_Graph___init__ c.K _ _ _) De
    have hl : (sortE (E.map norm)).length ≤ 2000 := by rw [sortE_len, List.length_map]; exact h1.few
    refine g_seq (g_fldMk (ev_callF (ea_cons ev_var (ea_cons ev_int (ea_cons ev_int ea_nil))) ⟨n, 0, 48, rfl, by omega, by omega, rfl⟩) rfl gf.cl gf.n1 rfl (by simp) ?_)
    refine g_seq (g_fldMk (ev_callF (ea_cons ev_var (ea_cons ev_var ea_nil)) ⟨E, n, rfl, h1, rfl⟩) rfl gf.cl gf.n2 (by decide +kernel) (by simp) ?_)
    refine g_fldMk (ns := ["nodes", "edges"]) (ds := [nI n, .tup ((sortE (E.map norm)).map pN)]) (ev_callF (ea_cons (ev_fldMk (ns := ["nodes", "edges"]) (ds := [nI n, .tup ((sortE (E.map norm)).map pN)]) rfl gf.cl gf.n2 rfl) (ea_cons ev_var ea_nil)) ⟨sortE (E.map norm), n, rfl, h0, h1.out, hl, rfl⟩) rfl gf.cl gf.n3 (by decide +kernel) (by simp) (hr _)
variable {c : Ct} {A : Hp} {Γ : List Sl} {te : TE} {n : Nat} {E : List Pr}
omit gf
theorem ev_nodes (gf : GF c.K) (h : EvG c A Γ te (gR c.K n E)) : EvG c A Γ (tFld c.K te "nodes") (nI n) := ev_fld h gf.cl gf.n1 rfl
theorem ev_edges (gf : GF c.K) (h : EvG c A Γ te (gR c.K n E)) : EvG c A Γ (tFld c.K te "edges") (.tup (E.map pN)) := ev_fld h gf.cl gf.n2 rfl
theorem ev_near (gf : GF c.K) (h : EvG c A Γ te (gR c.K n E)) : EvG c A Γ (tFld c.K te "_near") (.tup ((near n E).map fun r => .tup (r.map nI))) := ev_fld h gf.cl gf.n3 rfl
theorem ev_nearAt {ti : TE} (gf : GF c.K) (h : EvG c A Γ te (gR c.K n E)) {u : Nat} (hi : EvG c A Γ ti (nI u)) (hu : u < n) : EvG c A Γ (tOp (rIxA c.K) (tFld c.K te "_near") ti) (.tup ((nearOf u E).map nI)) :=
  ev_ixAT (ev_near gf h) hi (by rw [atI_nat (j := u) (v := .tup ((nearOf u E).map nI))]; rw [List.getElem?_map, near_at hu]; rfl)
include gf
theorem r_Graph_adjacent : ∀ vs H Q E, spF K (P_Graph_adjacent K) vs H Q E → t_Graph_adjacent K (spF K P_checked_node) { nx := fun _ H' => Q .non H', rt := Q } (L2.start ["self", "u", "v"] vs) H :=
  rd_ofF fun c A ds d De hK hp hr hn => by
    obtain ⟨n, E, u, v, rfl, h1, h2, rfl⟩ := hp
    subst hK
    show GoS c A [.dat (gR c.K n E), .dat (nI u), .dat (nI v)] (t_Graph_adjacent c.K _) De
    refine q_drop (ev_callF (ea_cons ev_var (ea_cons (ev_nodes gf ev_var) ea_nil)) ⟨u, n, rfl, h1, rfl⟩) ?_
    refine q_drop (ev_callF (ea_cons ev_var (ea_cons (ev_nodes gf ev_var) ea_nil)) ⟨v, n, rfl, h2, rfl⟩) ?_
    exact g_retF (ev_inTN ev_var (ev_nearAt gf ev_var ev_var h1)) hr
theorem r_Graph_degree : ∀ vs H Q E, spF K (P_Graph_degree K) vs H Q E → t_Graph_degree K (spF K P_checked_node) { nx := fun _ H' => Q .non H', rt := Q } (L2.start ["self", "v"] vs) H :=
  rd_ofF fun c A ds d De hK hp hr hn => by
    obtain ⟨n, E, u, rfl, h1, rfl⟩ := hp
    subst hK
    show GoS c A [.dat (gR c.K n E), .dat (nI u)] (t_Graph_degree c.K _) De
    refine q_drop (ev_callF (ea_cons ev_var (ea_cons (ev_nodes gf ev_var) ea_nil)) ⟨u, n, rfl, h1, rfl⟩) ?_
    exact g_retF ((ev_lenT (ev_nearAt gf ev_var ev_var h1)).is (by rw [List.length_map]; rfl)) hr
omit gf
theorem pN_ne {te ta : TE} {p q : Pr} (h1 : EvG c A Γ te (pN p)) (h2 : EvG c A Γ ta (pN q)) : EvG c A Γ (tOp (rNeD c.K) te ta) (.bl (decide (p ≠ q))) :=
  (ev_neD h1 h2 rfl rfl rfl rfl).is (by
    show D.bl (!PyData.eqv (.tuple [.int (p.1 : Int), .int (p.2 : Int)]) (.tuple [.int (q.1 : Int), .int (q.2 : Int)])) = _
    have e : PyData.eqv (.tuple [.int (p.1 : Int), .int (p.2 : Int)]) (.tuple [.int (q.1 : Int), .int (q.2 : Int)]) = decide (p = q) := by
      simp only [PyData.eqv, PyData.eqvAll, Bool.and_true]
      rw [Bool.eq_iff_iff]
      simp only [Bool.and_eq_true, beq_iff_eq, decide_eq_true_eq]
      constructor
      · rintro ⟨a, b⟩; exact Prod.ext (by omega) (by omega)
      · rintro rfl; exact ⟨rfl, rfl⟩
    rw [e]
    congr 1
    by_cases h : p = q <;> simp [h])
include gf
theorem r_Graph_without_edge : ∀ vs H Q E, spF K (P_Graph_without_edge K) vs H Q E → t_Graph_without_edge K (spF K P_checked_pair) (spIF K (GC K) gNs P_Graph_init) { nx := fun _ H' => Q .non H', rt := Q } (L2.start ["self", "u", "v", "first", "second", "pair"] vs) H :=
  rd_ofF fun c A ds d De hK hp hr hn => by
    obtain ⟨n, E, u, v, rfl, ok, h1, h2, h3, h4, rfl⟩ := hp
    subst hK
    show GoS c A [.dat (gR c.K n E), .dat (nI u), .dat (nI v), .any, .any, .any] (t_Graph_without_edge c.K _ _) De
    refine q_asg (js := [3, 4]) (ev_callF (ea_cons ev_var (ea_cons ev_var (ea_cons (ev_nodes gf ev_var) ea_nil))) ⟨u, v, n, rfl, h1, h2, h3, rfl⟩) (ga_pair (norm (u, v))) ?_
    show GoS c A [.dat (gR c.K n E), .dat (nI u), .dat (nI v), .dat (nI (norm (u, v)).1), .dat (nI (norm (u, v)).2), .any] _ _
    have hlt : (norm (u, v)).1 < n := by have := ok.lt _ h4; omega
    have hc : (nearOf (norm (u, v)).1 E).contains (norm (u, v)).2 = true := by
      rw [List.contains_eq_mem, decide_eq_true_eq]
      exact mem_nearOf.mpr ⟨_, h4, .inl ⟨rfl, rfl⟩⟩
    refine q_no ((et_test (ev_niTN ev_var (ev_nearAt gf ev_var ev_var hlt))).is (by rw [hc]; rfl)) ?_
    have ok' := ok.less (norm (u, v))
    refine g_retF (ev_makeF (ea_cons (ev_nodes gf ev_var) (ea_cons (EvN.g (en_lcST E pN (fun p => decide (p ≠ norm (u, v))) pN (fun p => [.dat (gR c.K n E), .dat (nI u), .dat (nI v), .dat (nI (norm (u, v)).1), .dat (nI (norm (u, v)).2), .dat (pN p)]) (ev_edges gf ev_var) (js := [5]) (by simp) (by have := ok.few; omega)
      (fun x A' hx => gg_name (Γ := [.dat (gR c.K n E), .dat (nI u), .dat (nI v), .dat (nI (norm (u, v)).1), .dat (nI (norm (u, v)).2), .any]) (by simp)) (fun x A' hx => et_test (pN_ne ev_var (ev_pair ev_var ev_var))) (fun x A' hx _ => ev_var))) ea_nil)) ⟨n, less E (norm (u, v)), rfl, ok.le, ok'.ed, by rw [ok'.sort]⟩) hr
end
end HD
end
section
set_option Elab.async false
set_option linter.all false
set_option maxRecDepth 100000
set_option maxHeartbeats 4000000
/-! S4: fusing. -/
namespace HD
open PySem PySem.Spec L2 DL CM
def imgs (n1 x n2 node : Nat) : List Nat := (List.range n2).map fun w => if w < node then n1 + w else if w = node then x else n1 + w - 1
def divE (E2 : List Pr) (node : Nat) (lot im : List Nat) (new : Nat) : List Pr := E2.map fun p => if p.1 = node ∧ lot.contains p.2 = true then (new, im.getD p.2 0) else if p.2 = node ∧ lot.contains p.1 = true then (new, im.getD p.1 0) else (im.getD p.1 0, im.getD p.2 0)
def fusL (n1 : Nat) (E1 : List Pr) (x y n2 : Nat) (E2 : List Pr) (node : Nat) (mv : List Nat) : List Pr := less E1 (norm (x, y)) ++ divE E2 node (sortN mv) (imgs n1 x n2 node) y
def divL (n2 : Nat) (E2 : List Pr) (node : Nat) (mv : List Nat) : List Pr := divE E2 node (sortN mv) (List.range n2) n2
structure Mv (n : Nat) (E : List Pr) (node : Nat) (mv : List Nat) : Prop where
  ok : GOk n E
  lt : node < n
  ne : mv ≠ []
  mem : ∀ m ∈ mv, m < n ∧ m ∈ nearOf node E
  nd : mv.Nodup
  len : mv.length < (nearOf node E).length
structure Fu (n1 : Nat) (E1 : List Pr) (x y n2 : Nat) (E2 : List Pr) (node : Nat) (mv : List Nat) : Prop where
  ok : GOk n1 E1
  hx : x < n1
  hy : y < n1
  ne : x ≠ y
  ed : norm (x, y) ∈ E1
  mv : Mv n2 E2 node mv
  le : n1 + n2 ≤ 48
def P_images_behind (K : PySem.W.Frag) (ds : List D) (d : D) : Prop := ∃ n1 E1 x n2 E2 node, ds = [gR K n1 E1, nI x, gR K n2 E2, nI node] ∧ n2 ≤ 48 ∧ d = .lst ((imgs n1 x n2 node).map nI)
def P_divided_edges (K : PySem.W.Frag) (ds : List D) (d : D) : Prop := ∃ n2 E2 node lot im new, ds = [gR K n2 E2, nI node, .tup (lot.map nI), .lst (im.map nI), nI new] ∧ GOk n2 E2 ∧ im.length = n2 ∧ d = .lst ((divE E2 node lot im new).map pN)
def P_checked_moved (K : PySem.W.Frag) (ds : List D) (d : D) : Prop := ∃ n E node mv, ds = [gR K n E, nI node, .lst (mv.map nI)] ∧ Mv n E node mv ∧ d = .tup ((sortN mv).map nI)
def P_checked_fusing (K : PySem.W.Frag) (ds : List D) (d : D) : Prop := ∃ n1 E1 x y n2 E2 node mv, ds = [gR K n1 E1, nI x, nI y, gR K n2 E2, nI node, .lst (mv.map nI)] ∧ Fu n1 E1 x y n2 E2 node mv ∧ d = .tup [nI (n1 + n2 - 1), .tup ((sortN mv).map nI)]
def P_fused (K : PySem.W.Frag) (ds : List D) (d : D) : Prop := ∃ n1 E1 x y n2 E2 node mv, ds = [gR K n1 E1, nI x, nI y, gR K n2 E2, nI node, .lst (mv.map nI)] ∧ Fu n1 E1 x y n2 E2 node mv ∧ EdIn (n1 + n2 - 1) (fusL n1 E1 x y n2 E2 node mv) ∧ d = gR K (n1 + n2 - 1) (sortE ((fusL n1 E1 x y n2 E2 node mv).map norm))
def P_divided (K : PySem.W.Frag) (ds : List D) (d : D) : Prop := ∃ n E node mv, ds = [gR K n E, nI node, .lst (mv.map nI)] ∧ n + 1 ≤ 48 ∧ Mv n E node mv ∧ EdIn (n + 1) (divL n E node mv) ∧ d = gR K (n + 1) (sortE ((divL n E node mv).map norm))
theorem nearOf_len (w : Nat) (E : List Pr) : (nearOf w E).length ≤ E.length := by
  unfold nearOf
  induction E with
  | nil => exact Nat.le_refl _
  | cons q l ih =>
    rw [List.flatMap_cons, List.length_append, List.length_cons]
    have : (if q.1 = w then [q.2] else if q.2 = w then [q.1] else []).length ≤ 1 := by
      split
      · exact Nat.le_refl _
      · split
        · exact Nat.le_refl _
        · exact Nat.zero_le _
    omega
theorem imgs_len (n1 x n2 node : Nat) : (imgs n1 x n2 node).length = n2 := by unfold imgs; simp
theorem divE_len (E2 : List Pr) (node : Nat) (lot im : List Nat) (new : Nat) : (divE E2 node lot im new).length = E2.length := by unfold divE; simp
section
variable {K : PySem.W.Frag} (gf : GF K)
variable {c : Ct} {A : Hp} {Γ : List Sl} {te ta : TE} {n : Nat} {E : List Pr}
theorem ev_adj (gf : GF c.K) {u v : Nat} (h : EvG c A Γ te (gR c.K n E)) {tu tv : TE} (hu : EvG c A Γ tu (nI u)) (hv : EvG c A Γ tv (nI v)) (lu : u < n) (lv : v < n) : EvG c A Γ (tMeth (GC c.K) "adjacent" (spF c.K (P_Graph_adjacent c.K)) [] E0 te (tCons tu (tCons tv tNil))) (.bl ((nearOf u E).contains v)) :=
  ev_methF h (by decide +kernel) (ea_cons hu (ea_cons hv ea_nil)) ⟨n, E, u, v, rfl, lu, lv, rfl⟩
theorem ev_deg (gf : GF c.K) {u : Nat} (h : EvG c A Γ te (gR c.K n E)) {tu : TE} (hu : EvG c A Γ tu (nI u)) (lu : u < n) : EvG c A Γ (tMeth (GC c.K) "degree" (spF c.K (P_Graph_degree c.K)) [] E0 te (tCons tu tNil)) (nI (nearOf u E).length) :=
  ev_methF h (by decide +kernel) (ea_cons hu ea_nil) ⟨n, E, u, rfl, lu, rfl⟩
include gf
theorem r_images_behind : ∀ vs H Q E, spF K (P_images_behind K) vs H Q E → t_images_behind K { nx := fun _ H' => Q .non H', rt := Q } (L2.start ["first", "x", "second", "node", "images", "other"] vs) H :=
  rd_ofF fun c A ds d De hK hp hr hn => by
    obtain ⟨n1, E1, x, n2, E2, node, rfl, h0, rfl⟩ := hp
    subst hK
    show GoS c A [.dat (gR c.K n1 E1), .dat (nI x), .dat (gR c.K n2 E2), .dat (nI node), .any, .any] (t_images_behind c.K) De
    refine q_setN (en_ls ea_nil) ?_
    let f := fun w => if w < node then n1 + w else if w = node then x else n1 + w - 1
    refine g_seq (g_forR (n := n2) (ev_nodes gf ev_var) (by omega) (fun i => [.dat (gR c.K n1 E1), .dat (nI x), .dat (gR c.K n2 E2), .dat (nI node), .own (((List.range i).map f).map nI), .any]) (Wk.refl _) (by simp) (fun i A' De' hi hrt hnx hct hbk => ?_) ?_)
    · show GoS c A' [.dat (gR c.K n1 E1), .dat (nI x), .dat (gR c.K n2 E2), .dat (nI node), .own (((List.range i).map f).map nI), .dat (nI i)] _ De'
      have go : ∀ {te : TE}, EvG c A' [.dat (gR c.K n1 E1), .dat (nI x), .dat (gR c.K n2 E2), .dat (nI node), .own (((List.range i).map f).map nI), .dat (nI i)] te (nI (f i)) → GoS c A' [.dat (gR c.K n1 E1), .dat (nI x), .dat (gR c.K n2 E2), .dat (nI node), .own (((List.range i).map f).map nI), .dat (nI i)] (tDrop (tBM c.K "list" rAppend (tVar 4) (tCons te tNil))) De' := fun h => by
        refine g_app rfl h (by simp; omega) (n_wk ?_ hnx)
        rw [List.range_succ, List.map_append, List.map_append]
        exact .same (.same (.same (.same (.same (.any .nil)))))
      refine g_if (et_test (ev_lt ev_var ev_var)) (fun e => ?_) fun e => ?_
      · have hlt : i < node := by have := of_decide_eq_true e; omega
        refine go ((ev_addA (ev_nodes gf ev_var) ev_var).is ?_)
        show D.int ((n1 : Int) + (i : Int)) = nI (if i < node then _ else _)
        rw [if_pos hlt]; rfl
      · have hlt : ¬ i < node := by have := of_decide_eq_false e; omega
        refine g_if (et_test (ev_eqN ev_var ev_var)) (fun e => ?_) fun e => ?_
        · have he := of_decide_eq_true e
          refine go (EvG.is (ev_var (d := nI x)) ?_)
          show nI x = nI (if i < node then _ else if i = node then x else _)
          rw [if_neg hlt, if_pos he]
        · have he := of_decide_eq_false e
          refine go ((ev_sub (ev_addA (ev_nodes gf ev_var) ev_var) ev_int).is ?_)
          show D.int ((n1 : Int) + (i : Int) - 1) = nI (if i < node then _ else if i = node then x else n1 + i - 1)
          rw [if_neg hlt, if_neg he]
          unfold nI; congr 1; omega
    · refine g_freeze (i := 4) rfl (g_retF ev_var hr)
theorem im_at {im : List Nat} {n u : Nat} (h : im.length = n) (hu : u < n) : atI (im.map nI) (u : Int) = some (nI (im.getD u 0)) := by
  refine atI_nat ?_
  rw [List.getElem?_map, List.getD_eq_getElem?_getD, List.getElem?_eq_getElem (by omega)]; rfl
theorem r_divided_edges : ∀ vs H Q E, spF K (P_divided_edges K) vs H Q E → t_divided_edges K { nx := fun _ H' => Q .non H', rt := Q } (L2.start ["second", "node", "lot", "images", "new", "edges", "u", "v"] vs) H :=
  rd_ofF fun c A ds d De hK hp hr hn => by
    obtain ⟨n2, E2, node, lot, im, new, rfl, ok, hl, rfl⟩ := hp
    subst hK
    let f : Pr → Pr := fun p => if p.1 = node ∧ lot.contains p.2 = true then (new, im.getD p.2 0) else if p.2 = node ∧ lot.contains p.1 = true then (new, im.getD p.1 0) else (im.getD p.1 0, im.getD p.2 0)
    show GoS c A [.dat (gR c.K n2 E2), .dat (nI node), .dat (.tup (lot.map nI)), .dat (.lst (im.map nI)), .dat (nI new), .any, .any, .any] (t_divided_edges c.K) De
    refine q_setN (en_ls ea_nil) ?_
    refine q_forT E2 pN (fun i => [.dat (gR c.K n2 E2), .dat (nI node), .dat (.tup (lot.map nI)), .dat (.lst (im.map nI)), .dat (nI new), .own (((E2.take i).map f).map pN), .any, .any]) (fun i p => [.dat (gR c.K n2 E2), .dat (nI node), .dat (.tup (lot.map nI)), .dat (.lst (im.map nI)), .dat (nI new), .own (((E2.take i).map f).map pN), .dat (nI p.1), .dat (nI p.2)])
      (ev_edges gf ev_var) (Wk.refl _) (js := [6, 7]) (fun i x A' hx => ga_pair (Γ := [.dat (gR c.K n2 E2), .dat (nI node), .dat (.tup (lot.map nI)), .dat (.lst (im.map nI)), .dat (nI new), .own (((E2.take i).map f).map pN), .any, .any]) x) (fun i p A' De' hx hrt hnx hct hbk => ?_) ?_
    · have hm := List.mem_of_getElem? hx
      have hp := ok.lt p hm
      have go : ∀ {te : TE}, EvG c A' [.dat (gR c.K n2 E2), .dat (nI node), .dat (.tup (lot.map nI)), .dat (.lst (im.map nI)), .dat (nI new), .own (((E2.take i).map f).map pN), .dat (nI p.1), .dat (nI p.2)] te (pN (f p)) → GoS c A' [.dat (gR c.K n2 E2), .dat (nI node), .dat (.tup (lot.map nI)), .dat (.lst (im.map nI)), .dat (nI new), .own (((E2.take i).map f).map pN), .dat (nI p.1), .dat (nI p.2)] (tDrop (tBM c.K "list" rAppend (tVar 5) (tCons te tNil))) De' := fun h => by
        refine g_app rfl h (by have := ok.few; rw [List.length_map, List.length_map, List.length_take]; omega) (n_wk ?_ hnx)
        rw [List.take_add_one, hx, List.map_append, List.map_append]
        exact .same (.same (.same (.same (.same (.same (.any (.any .nil)))))))
      have e1 : ∀ {b1 b2 : Bool}, (b1 && b2) = true → b1 = true ∧ b2 = true := fun h => Bool.and_eq_true_iff.mp h
      refine g_if (et_and (et_test (ev_eqN ev_var ev_var)) fun _ => et_test (ev_inTN (xs := lot) ev_var ev_var)) (fun e => ?_) fun e => ?_
      · obtain ⟨q1, q2⟩ := e1 e
        refine go ((ev_pair ev_var (ev_ixA (EvG.l ev_var) ev_var (im_at gf hl hp.2))).is ?_)
        show _ = pN (if _ then _ else _)
        rw [if_pos ⟨of_decide_eq_true q1, q2⟩]
      · have n1 : ¬ (p.1 = node ∧ lot.contains p.2 = true) := fun ⟨a, b⟩ => by rw [decide_eq_true a, b] at e; cases e
        refine g_if (et_and (et_test (ev_eqN ev_var ev_var)) fun _ => et_test (ev_inTN (xs := lot) ev_var ev_var)) (fun e => ?_) fun e => ?_
        · obtain ⟨q1, q2⟩ := e1 e
          refine go ((ev_pair ev_var (ev_ixA (EvG.l ev_var) ev_var (im_at gf hl (by omega)))).is ?_)
          show _ = pN (if _ then _ else if _ then _ else _)
          rw [if_neg n1, if_pos ⟨of_decide_eq_true q1, q2⟩]
        · have n2' : ¬ (p.2 = node ∧ lot.contains p.1 = true) := fun ⟨a, b⟩ => by rw [decide_eq_true a, b] at e; cases e
          refine go ((ev_pair (ev_ixA (EvG.l ev_var) ev_var (im_at gf hl (by omega))) (ev_ixA (EvG.l ev_var) ev_var (im_at gf hl hp.2))).is ?_)
          show _ = pN (if _ then _ else if _ then _ else _)
          rw [if_neg n1, if_neg n2']
    · rw [List.take_length]
      exact g_freeze (i := 5) rfl (g_retF ev_var hr)
theorem r_checked_moved : ∀ vs H Q E, spF K (P_checked_moved K) vs H Q E → t_checked_moved K (spF K P_checked_node) (spF K P_checked_size) (spF K P_checked_lot) (spF K (P_Graph_adjacent K)) (spF K (P_Graph_degree K)) { nx := fun _ H' => Q .non H', rt := Q } (L2.start ["second", "node", "moved", "entries", "lot", "other"] vs) H :=
  rd_ofF fun c A ds d De hK hp hr hn => by
    obtain ⟨n, E, node, mv, rfl, ⟨ok, hnode, hne, hmem, hnd, hlen⟩, rfl⟩ := hp
    subst hK
    show GoS c A [.dat (gR c.K n E), .dat (nI node), .dat (.lst (mv.map nI)), .any, .any, .any] (t_checked_moved c.K _ _ _ _ _) De
    have hpos : 1 ≤ mv.length := by
      cases mv with
      | nil => exact absurd rfl hne
      | cons _ _ => simp
    have hfew : mv.length ≤ 2000 := by have := nearOf_len node E; have := ok.few; omega
    refine q_drop (ev_callF (ea_cons ev_var (ea_cons (ev_nodes gf ev_var) ea_nil)) ⟨node, n, rfl, hnode, rfl⟩) ?_
    refine q_set (ev_callF (ea_cons ev_var (ea_cons ev_int (ea_cons ev_non ea_nil))) ⟨mv.map nI, 1, rfl, by rw [List.length_map]; omega, rfl⟩) ?_
    refine q_set (ev_callF (ea_cons ev_var (ea_cons (ev_nodes gf ev_var) ea_nil)) ⟨mv, n, rfl, fun x hx => (hmem x hx).1, hnd, hfew, rfl⟩) ?_
    refine q_for mv nI (fun i => [.dat (gR c.K n E), .dat (nI node), .dat (.lst (mv.map nI)), .dat (.lst (mv.map nI)), .dat (.tup ((sortN mv).map nI)), .any]) (fun i x => [.dat (gR c.K n E), .dat (nI node), .dat (.lst (mv.map nI)), .dat (.lst (mv.map nI)), .dat (.tup ((sortN mv).map nI)), .dat (nI x)])
      ev_var (Wk.refl _) (js := [5]) (fun i x A' hx => gg_name (Γ := [.dat (gR c.K n E), .dat (nI node), .dat (.lst (mv.map nI)), .dat (.lst (mv.map nI)), .dat (.tup ((sortN mv).map nI)), .any]) (by simp)) (fun i x A' De' hx hrt hnx hct hbk => ?_) ?_
    · obtain ⟨a1, a2⟩ := hmem x (List.mem_of_getElem? hx)
      have hc : (nearOf node E).contains x = true := by rw [List.contains_eq_mem]; exact decide_eq_true a2
      exact g_ifF ((et_not (et_truB (ev_adj gf ev_var ev_var ev_var hnode a1))).is (by rw [hc]; rfl)) (g_next (n_wk (.same (.same (.same (.same (.same (.any .nil)))))) hnx))
    · have el : (sortN mv).length = mv.length := (sortN_perm mv).length_eq
      refine q_no ((et_test (ev_eqN (a := (sortN mv).length) ((ev_lenT ev_var).is (by rw [List.length_map]; rfl)) (ev_deg gf ev_var ev_var hnode))).is (decide_eq_false (by omega))) ?_
      exact g_retF ev_var hr
theorem r_checked_fusing : ∀ vs H Q E, spF K (P_checked_fusing K) vs H Q E → t_checked_fusing K (spF K P_checked_pair) (spF K (P_Graph_adjacent K)) (spF K (P_checked_moved K)) (spF K P_checked_number) { nx := fun _ H' => Q .non H', rt := Q } (L2.start ["first", "x", "y", "second", "node", "moved", "low", "high", "lot"] vs) H :=
  rd_ofF fun c A ds d De hK hp hr hn => by
    obtain ⟨n1, E1, x, y, n2, E2, node, mv, rfl, fu, rfl⟩ := hp
    subst hK
    show GoS c A [.dat (gR c.K n1 E1), .dat (nI x), .dat (nI y), .dat (gR c.K n2 E2), .dat (nI node), .dat (.lst (mv.map nI)), .any, .any, .any] (t_checked_fusing c.K _ _ _ _) De
    refine q_asg (js := [6, 7]) (ev_callF (ea_cons ev_var (ea_cons ev_var (ea_cons (ev_nodes gf ev_var) ea_nil))) ⟨x, y, n1, rfl, fu.hx, fu.hy, fu.ne, rfl⟩) (ga_pair (norm (x, y))) ?_
    show GoS c A [.dat (gR c.K n1 E1), .dat (nI x), .dat (nI y), .dat (gR c.K n2 E2), .dat (nI node), .dat (.lst (mv.map nI)), .dat (nI (norm (x, y)).1), .dat (nI (norm (x, y)).2), .any] _ _
    have hlt := fu.ok.lt _ fu.ed
    have hc : (nearOf (norm (x, y)).1 E1).contains (norm (x, y)).2 = true := by
      rw [List.contains_eq_mem, decide_eq_true_eq]
      exact mem_nearOf.mpr ⟨_, fu.ed, .inl ⟨rfl, rfl⟩⟩
    refine q_no ((et_not (et_truB (ev_adj gf ev_var ev_var ev_var (by omega) hlt.2))).is (by rw [hc]; rfl)) ?_
    refine q_set (ev_callF (ea_cons ev_var (ea_cons ev_var (ea_cons ev_var ea_nil))) ⟨n2, E2, node, mv, rfl, fu.mv, rfl⟩) ?_
    have h1 : 1 ≤ n1 := by have := fu.hx; omega
    refine g_retF ((ev_tp (ea_cons (ev_callF (ea_cons (ev_sub (ev_addA (ev_nodes gf ev_var) (ev_nodes gf ev_var)) ev_int) (ea_cons ev_int (ea_cons ev_int ea_nil))) ⟨_, 0, 48, rfl, by omega, by have := fu.le; omega, rfl⟩) (ea_cons ev_var ea_nil))).is ?_) hr
    show D.tup [.int ((n1 : Int) + (n2 : Int) - 1), _] = D.tup [nI (n1 + n2 - 1), _]
    unfold nI; congr 2; congr 1; omega
theorem r_fused : ∀ vs H Q E, spF K (P_fused K) vs H Q E → t_fused K (spF K (P_checked_fusing K)) (spF K (P_images_behind K)) (spF K (P_Graph_without_edge K)) (spF K (P_divided_edges K)) (spIF K (GC K) gNs P_Graph_init) { nx := fun _ H' => Q .non H', rt := Q } (L2.start ["first", "x", "y", "second", "node", "moved", "count", "lot", "images", "edges"] vs) H :=
  rd_ofF fun c A ds d De hK hp hr hn => by
    obtain ⟨n1, E1, x, y, n2, E2, node, mv, rfl, fu, ed, rfl⟩ := hp
    subst hK
    show GoS c A [.dat (gR c.K n1 E1), .dat (nI x), .dat (nI y), .dat (gR c.K n2 E2), .dat (nI node), .dat (.lst (mv.map nI)), .any, .any, .any, .any] (t_fused c.K _ _ _ _ _) De
    refine q_asg (js := [6, 7]) (ev_callF (ea_cons ev_var (ea_cons ev_var (ea_cons ev_var (ea_cons ev_var (ea_cons ev_var (ea_cons ev_var ea_nil)))))) ⟨n1, E1, x, y, n2, E2, node, mv, rfl, fu, rfl⟩) (ga_tup (gs_cons (gg_name (by simp)) (gs_cons (gg_name (by simp)) gs_nil)) rfl) ?_
    refine q_set (ev_callF (ea_cons ev_var (ea_cons ev_var (ea_cons ev_var (ea_cons ev_var ea_nil)))) ⟨n1, E1, x, n2, E2, node, rfl, by have := fu.le; omega, rfl⟩) ?_
    show GoS c A [.dat (gR c.K n1 E1), .dat (nI x), .dat (nI y), .dat (gR c.K n2 E2), .dat (nI node), .dat (.lst (mv.map nI)), .dat (nI (n1 + n2 - 1)), .dat (.tup ((sortN mv).map nI)), .dat (.lst ((imgs n1 x n2 node).map nI)), .any] _ _
    have hw : ∀ A, EvG c A [.dat (gR c.K n1 E1), .dat (nI x), .dat (nI y), .dat (gR c.K n2 E2), .dat (nI node), .dat (.lst (mv.map nI)), .dat (nI (n1 + n2 - 1)), .dat (.tup ((sortN mv).map nI)), .dat (.lst ((imgs n1 x n2 node).map nI)), .any] (tMeth (GC c.K) "without_edge" (spF c.K (P_Graph_without_edge c.K)) [] E0 (tVar 0) (tCons (tVar 1) (tCons (tVar 2) tNil))) (gR c.K n1 (less E1 (norm (x, y)))) := fun A =>
      ev_methF (ev_var (i := 0)) (by decide +kernel) (ea_cons ev_var (ea_cons ev_var ea_nil)) ⟨n1, E1, x, y, rfl, fu.ok, fu.hx, fu.hy, fu.ne, fu.ed, rfl⟩
    have l1 := fu.ok.few
    have l2 := fu.mv.ok.few
    have l3 := (fu.ok.less (norm (x, y))).few
    refine q_setN ((en_cat (en_listT (ev_edges gf (hw A))).g (ev_callF (ea_cons ev_var (ea_cons ev_var (ea_cons ev_var (ea_cons ev_var (ea_cons ev_var ea_nil))))) ⟨n2, E2, node, sortN mv, imgs n1 x n2 node, y, rfl, fu.mv.ok, imgs_len _ _ _ _, rfl⟩) (by rw [List.length_map, List.length_map, divE_len]; omega)).is (es := (fusL n1 E1 x y n2 E2 node mv).map pN) (by unfold fusL; rw [List.map_append])) ?_
    refine g_freeze (i := 9) rfl ?_
    exact g_retF (ev_makeF (ea_cons ev_var (ea_cons ev_var ea_nil)) ⟨n1 + n2 - 1, fusL n1 E1 x y n2 E2 node mv, rfl, by have := fu.le; omega, ed, rfl⟩) hr
theorem r_divided : ∀ vs H Q E, spF K (P_divided K) vs H Q E → t_divided K (spF K (P_checked_moved K)) (spF K P_checked_number) (spIF K (GC K) gNs P_Graph_init) (spF K (P_divided_edges K)) { nx := fun _ H' => Q .non H', rt := Q } (L2.start ["second", "node", "moved", "lot", "count"] vs) H :=
  rd_ofF fun c A ds d De hK hp hr hn => by
    obtain ⟨n, E, node, mv, rfl, h0, hm, ed, rfl⟩ := hp
    subst hK
    show GoS c A [.dat (gR c.K n E), .dat (nI node), .dat (.lst (mv.map nI)), .any, .any] (t_divided c.K _ _ _ _) De
    refine q_set (ev_callF (ea_cons ev_var (ea_cons ev_var (ea_cons ev_var ea_nil))) ⟨n, E, node, mv, rfl, hm, rfl⟩) ?_
    refine q_set (ev_callF (d := nI (n + 1)) (ea_cons (ev_addA (ev_nodes gf ev_var) ev_int) (ea_cons ev_int (ea_cons ev_int ea_nil))) ⟨_, 0, 48, rfl, by omega, by omega, rfl⟩) ?_
    refine g_retF (ev_makeF (ea_cons ev_var (ea_cons (ev_callF (ea_cons ev_var (ea_cons ev_var (ea_cons ev_var (ea_cons (EvN.g (en_lstRg (n := n) (ev_nodes gf ev_var) (by omega))) (ea_cons (ev_nodes gf ev_var) ea_nil))))) ⟨n, E, node, sortN mv, List.range n, n, rfl, hm.ok, by simp, rfl⟩) ea_nil)) ⟨n + 1, divL n E node mv, rfl, h0, ed, rfl⟩) hr
end
end HD
end
section
set_option Elab.async false
set_option linter.all false
set_option maxRecDepth 100000
set_option maxHeartbeats 4000000
/-! S5: the walk over states, the first colouring, critical graphs. -/
namespace HD
open PySem PySem.Spec L2 DL CM
def optN : Option Nat → D
  | none => .non
  | some c => nI c
def colD : Option (List Nat) → D
  | none => .non
  | some r => .tup (r.map nI)
def freeOf (taken : List Nat) (s e : Nat) : List Nat := (List.range e).filter fun c => decide (s ≤ c) && !taken.contains c
def bareB (n : Nat) (E : List Pr) : Bool := (List.range n).any fun v => decide ((nearOf v E).length = 0)
def critB (n : Nat) (E : List Pr) (k : Nat) : Bool := !bareB n E && ((firstCol n E k).isNone && E.all fun e => (firstCol n (less E e) k).isSome)
def P__lower_neighbours (K : PySem.W.Frag) (ds : List D) (d : D) : Prop := ∃ n E, ds = [gR K n E] ∧ GOk n E ∧ d = .lst ((lower n E).map fun r => .lst (r.map nI))
def P__least_free (ds : List D) (d : D) : Prop := ∃ (row low : List Nat) (s e : Nat), ds = [.lst (row.map nI), .lst (low.map nI), nI s, nI e] ∧ (∀ u ∈ low, u < row.length) ∧ low.length ≤ 2000 ∧ s ≤ 1000 ∧ e ≤ 1000 ∧ d = optN ((freeOf (low.map (row.getD · 0)) s e).head?)
def P__visited (K : PySem.W.Frag) (ds : List D) (d : D) : Prop := ∃ n E k, ds = [gR K n E, nI k, nI 5000, .bl false] ∧ GOk n E ∧ 1 ≤ k ∧ k ≤ 6 ∧ cnt n E k ≤ 5000 ∧ d = .tup [nI (cnt n E k), .lst (match firstCol n E k with | none => [] | some r => [.tup (r.map nI)])]
def P_first_colouring (K : PySem.W.Frag) (ds : List D) (d : D) : Prop := ∃ n E k, ds = [gR K n E, nI k] ∧ GOk n E ∧ 1 ≤ k ∧ k ≤ 6 ∧ cnt n E k ≤ 5000 ∧ d = colD (firstCol n E k)
def P_has_bare_node (K : PySem.W.Frag) (ds : List D) (d : D) : Prop := ∃ n E, ds = [gR K n E] ∧ n ≤ 48 ∧ d = .bl (bareB n E)
structure CrOk (n : Nat) (E : List Pr) (k : Nat) : Prop where
  ok : GOk n E
  k1 : 1 ≤ k
  k6 : k ≤ 6
  c0 : cnt n E k ≤ 5000
  c1 : ∀ e ∈ E, cnt n (less E e) k ≤ 5000
def P_edge_colourings (K : PySem.W.Frag) (ds : List D) (d : D) : Prop := ∃ n E k, ds = [gR K n E, nI k] ∧ CrOk n E k ∧ d = if critB n E k = true then .lst (E.map fun e => colD (firstCol n (less E e) k)) else .non
def P_is_critical (K : PySem.W.Frag) (ds : List D) (d : D) : Prop := ∃ n E k, ds = [gR K n E, nI k] ∧ CrOk n E k ∧ d = .bl (critB n E k)
theorem lowOf_len (w : Nat) (E : List Pr) : (lowOf w E).length ≤ E.length := List.length_filterMap_le _ _
section
variable {K : PySem.W.Frag} (gf : GF K)
include gf
theorem r__lower_neighbours : ∀ vs H Q E, spF K (P__lower_neighbours K) vs H Q E → t__lower_neighbours K { nx := fun _ H' => Q .non H', rt := Q } (L2.start ["graph", "lower", "u", "v", "_"] vs) H :=
  rd_ofF fun c A ds d De hK hp hr hn => by
    obtain ⟨n, E, rfl, ok, rfl⟩ := hp
    subst hK
    show GoS c A [.dat (gR c.K n E), .any, .any, .any, .any] (t__lower_neighbours c.K) De
    refine g_seq (g_set2 (n := n) (ev_nodes gf ev_var) (by have := ok.le; omega) (by simp) ?_)
    refine q_forT E pN (fun i => [.dat (gR c.K n E), .own2 ((lower n (E.take i)).map (·.map nI)), .any, .any, .any]) (fun i p => [.dat (gR c.K n E), .own2 ((lower n (E.take i)).map (·.map nI)), .dat (nI p.1), .dat (nI p.2), .any])
      (ev_edges gf ev_var) ?_ (js := [2, 3]) (fun i x A' hx => ga_pair (Γ := [.dat (gR c.K n E), .own2 ((lower n (E.take i)).map (·.map nI)), .any, .any, .any]) x) (fun i p A' De' hx hrt hnx hct hbk => ?_) ?_
    · rw [List.take_zero, lower_nil, List.map_replicate]
      exact Wk.refl _
    · have hm := List.mem_of_getElem? hx
      obtain ⟨a1, a2⟩ := ok.lt p hm
      have hl : (lowOf p.2 (E.take i)).length ≤ 2000 := by
        have h1 := lowOf_len p.2 (E.take i)
        have h2 := ok.few
        rw [List.length_take] at h1; omega
      have e1 : ((lower n (E.take i)).map (·.map nI))[p.2]? = some ((lowOf p.2 (E.take i)).map nI) := by rw [List.getElem?_map, lower_at a2]; rfl
      refine g_app2 (u := p.2) rfl ev_var e1 ev_var (by rw [List.length_map]; omega) (n_wk ?_ hnx)
      have e3 : (lower n (E.take (i + 1))).map (·.map nI) = ((lower n (E.take i)).map (·.map nI)).set p.2 ((lowOf p.2 (E.take i)).map nI ++ [nI p.1]) := by
        rw [List.take_add_one, hx]
        show (lower n (E.take i ++ [p])).map _ = _
        rw [lower_step (u := p.1) (v := p.2) a2, List.map_set, List.map_append]
        rfl
      rw [e3]
      exact .same (.same (.any (.any (.any .nil))))
    · rw [List.take_length]
      refine g_freeze2 (i := 1) rfl ?_
      exact g_retF (EvG.is (ev_var (i := 1) (d := .lst (((lower n E).map (·.map nI)).map D.lst))) (by rw [List.map_map]; rfl)) hr
omit gf
theorem r__least_free : ∀ vs H Q E, spF K P__least_free vs H Q E → t__least_free K { nx := fun _ H' => Q .non H', rt := Q } (L2.start ["entries", "lower", "start", "end", "taken", "colour", "u"] vs) H :=
  rd_ofF fun c A ds d De hK hp hr hn => by
    obtain ⟨row, low, s, e, rfl, h1, h2, h3, h4, rfl⟩ := hp
    subst hK
    show GoS c A [.dat (.lst (row.map nI)), .dat (.lst (low.map nI)), .dat (nI s), .dat (nI e), .any, .any, .any] (t__least_free c.K) De
    refine q_set (EvN.g (ds := (low.map (row.getD · 0)).map nI) ((en_lcS low nI (fun _ => true) (fun u => nI (row.getD u 0)) (fun u => [.dat (.lst (row.map nI)), .dat (.lst (low.map nI)), .dat (nI s), .dat (nI e), .any, .any, .dat (nI u)])
      ev_var (js := [6]) (by simp) (by omega) (fun x A' hx => gg_name (Γ := [.dat (.lst (row.map nI)), .dat (.lst (low.map nI)), .dat (nI s), .dat (nI e), .any, .any, .any]) (by simp)) (fun x A' hx => et_yes) (fun x A' hx _ => ev_ixA (EvG.l ev_var) ev_var (by
        refine atI_nat (j := x) ?_
        rw [List.getElem?_map, List.getD_eq_getElem?_getD, List.getElem?_eq_getElem (h1 x hx)]; rfl))).is (by rw [filter_true, List.map_map]; rfl))) ?_
    generalize hT : low.map (row.getD · 0) = T at *
    show GoS c A [.dat (.lst (row.map nI)), .dat (.lst (low.map nI)), .dat (nI s), .dat (nI e), .dat (.lst (T.map nI)), .any, .any] _ De
    refine g_seq (g_forR2J (m := s) (n := e) ev_var ev_var (by omega) (by omega) (fun i => [.dat (.lst (row.map nI)), .dat (.lst (low.map nI)), .dat (nI s), .dat (nI e), .dat (.lst (T.map nI)), .any, .any]) (fun i => ∀ x, s ≤ x → x < s + i → T.contains x = true) (Wk.refl _) (fun x a b => by omega) (by simp) (fun i A' De' hi hJ hrt hnx hct hbk => ?_) fun hJ => ?_)
    · show GoS c A' [.dat (.lst (row.map nI)), .dat (.lst (low.map nI)), .dat (nI s), .dat (nI e), .dat (.lst (T.map nI)), .dat (nI (s + i)), .any] _ De'
      refine g_if (et_test (ev_niLN (x := s + i) ev_var (EvG.l ev_var))) (fun hb => ?_) fun hb => g_next (n_wk (.same (.same (.same (.same (.same (.any (.any .nil))))))) (hnx fun x a b => ?_))
      · refine g_retF (EvG.is (ev_var (i := 5) (d := nI (s + i))) ?_) (by rw [hrt]; exact hr)
        have hh : (freeOf T s e).head? = some (s + i) := by
          unfold freeOf
          obtain ⟨m, rfl⟩ : ∃ m, e = (s + i) + (m + 1) := ⟨e - (s + i) - 1, by omega⟩
          rw [List.range_add, List.filter_append]
          have e2 : (List.range (s + i)).filter (fun c => decide (s ≤ c) && !T.contains c) = [] := by
            rw [List.filter_eq_nil_iff]
            intro x hx hq
            rw [List.mem_range] at hx
            rw [Bool.and_eq_true] at hq
            have := hJ x (of_decide_eq_true hq.1) hx
            rw [this] at hq; exact absurd hq.2 (by simp)
          rw [e2, List.nil_append, List.range_succ_eq_map, List.map_cons, List.filter_cons, if_pos (by rw [Bool.and_eq_true]; exact ⟨decide_eq_true (by omega), hb⟩)]
          rfl
        rw [hh]; rfl
      · by_cases q : x = s + i
        · subst q; simpa using hb
        · exact hJ x a (by omega)
    · refine g_retF (EvG.is ev_non ?_) hr
      have hh : freeOf T s e = [] := by
        unfold freeOf
        rw [List.filter_eq_nil_iff]
        intro x hx hq
        rw [List.mem_range] at hx
        rw [Bool.and_eq_true] at hq
        have h5 := of_decide_eq_true hq.1
        have := hJ x h5 (by omega)
        rw [this] at hq; exact absurd hq.2 (by simp)
      rw [hh]; rfl
end
end HD
end
section
set_option Elab.async false
set_option linter.all false
set_option maxRecDepth 100000
set_option maxHeartbeats 4000000
/-! S6: the loop over the states. -/
namespace HD
open PySem PySem.Spec L2 DL CM
/-- the greatest colours so far, plus 1, one for each beginning of the row -/
def useds (row : List Nat) : List Nat := (List.range (row.length + 1)).map fun i => mx (row.take i)
theorem useds_len (row : List Nat) : (useds row).length = row.length + 1 := by unfold useds; simp
theorem useds_app (row : List Nat) (x : Nat) : useds (row ++ [x]) = useds row ++ [mx (row ++ [x])] := by
  unfold useds
  rw [List.length_append, List.length_singleton, List.range_succ, List.map_append]
  congr 1
  · apply List.map_congr_left
    intro i hi
    rw [List.mem_range] at hi
    rw [List.take_append_of_le_length (by omega)]
  · rw [List.map_singleton, List.take_of_length_le (by simp)]
theorem useds_last (row : List Nat) : (useds row)[row.length]? = some (mx row) := by
  unfold useds
  rw [List.getElem?_map, List.getElem?_range (by omega)]
  show some (mx (row.take row.length)) = _
  rw [List.take_length]
theorem useds_drop {row : List Nat} (h : row ≠ []) : (useds row).dropLast = useds row.dropLast := by
  have e : row = row.dropLast ++ [row.getLast h] := (List.dropLast_concat_getLast h).symm
  generalize row.dropLast = r at *
  generalize row.getLast h = y at *
  subst e
  rw [useds_app, List.dropLast_concat]
theorem free_eq (L : List (List Nat)) (k : Nat) (row : List Nat) (s : Nat) : free L k row s = freeOf (takenOf L row) s (topC k row) := rfl
structure VS where
  row : List Nat
  s : Nat
  c : Nat
  m : Nat
section
variable {K : PySem.W.Frag} (gf : GF K)
include gf
theorem r__visited : ∀ vs H Q E, spF K (P__visited K) vs H Q E → t__visited K (spF K (P__lower_neighbours K)) (spF K P__least_free) { nx := fun _ H' => Q .non H', rt := Q } (L2.start ["graph", "k", "limit", "whole", "lower", "entries", "used", "start", "count", "found", "colour", "end"] vs) H :=
  rd_ofF fun c A ds d De hK hp hr hn => by
    obtain ⟨n, E, k, rfl, ok, k1, k6, hc, rfl⟩ := hp
    subst hK
    have hn48 := ok.le
    show GoS c A [.dat (gR c.K n E), .dat (nI k), .dat (nI 5000), .dat (.bl false), .any, .any, .any, .any, .any, .any, .any, .any] (t__visited c.K _ _) De
    refine q_set (ev_callF (ea_cons ev_var ea_nil) ⟨n, E, rfl, ok, rfl⟩) ?_
    refine q_setN (en_ls ea_nil) ?_
    refine q_setN (en_ls (ea_cons ev_int ea_nil)) ?_
    refine q_set ev_int ?_
    refine q_set ev_int ?_
    refine q_setN (en_ls ea_nil) ?_
    obtain ⟨m0, hrun0⟩ := run_dfs (lower n E) k n
    have hrun : Run (lower n E) k n [] 0 1 (firstCol n E k) (cnt n E k) m0 := hrun0
    clear hrun0
    generalize firstCol n E k = fr at *
    generalize cnt n E k = fc at *
    generalize hL : D.lst ((lower n E).map fun r => .lst (r.map nI)) = dL
    let W : VS → List Sl := fun z => [.dat (gR c.K n E), .dat (nI k), .dat (nI 5000), .dat (.bl false), .dat dL, .own (z.row.map nI), .own ((useds z.row).map nI), .dat (nI z.s), .dat (nI z.c), .own [], .any, .any]
    refine g_while W (fun z => Run (lower n E) k n z.row z.s z.c fr fc z.m ∧ z.row.length ≤ n ∧ z.s ≤ 100 ∧ ∀ x ∈ z.row, x < k) (fun z => z.m) ⟨[], 0, 1, m0⟩ ?_ ⟨hrun, Nat.zero_le _, Nat.zero_le _, fun x hx => by cases hx⟩ (fun z A' hz => ?_)
    · exact Wk.refl _
    obtain ⟨row, s, cn, m⟩ := z
    obtain ⟨hrun, hlen, hs, hrow⟩ := hz
    simp only at hrun hlen hs hrow
    refine ⟨true, et_B ev_bl, fun _ De' hrt hnx hct hbk => ?_, fun h => by cases h⟩
    show GoS c A' [.dat (gR c.K n E), .dat (nI k), .dat (nI 5000), .dat (.bl false), .dat dL, .own (row.map nI), .own ((useds row).map nI), .dat (nI s), .dat (nI cn), .own [], .any, .any] _ De'
    refine q_set ev_non ?_
    show GoS c A' [.dat (gR c.K n E), .dat (nI k), .dat (nI 5000), .dat (.bl false), .dat dL, .own (row.map nI), .own ((useds row).map nI), .dat (nI s), .dat (nI cn), .own [], .dat .non, .any] _ De'
    have hlenE : ∀ {Γ : List Sl}, Γ[5]? = some (.own (row.map nI)) → EvG c A' Γ (tCB (rLenA c.K) (tCons (tVar 5) tNil)) (nI row.length) := fun h => (ev_len (ev_own h)).is (by rw [List.length_map]; rfl)
    refine g_seq (g_if (et_test (ev_eqN (hlenE rfl) (ev_nodes gf ev_var))) (fun e => ?_) fun e => ?_)
    · -- the row is whole
      have he := of_decide_eq_true e
      have hres : fr = some row ∧ fc = cn := by
        cases hrun with
        | full _ => exact ⟨rfl, rfl⟩
        | push h _ _ => omega
        | pop h _ _ _ => omega
        | stop h _ => simp at he; omega
      refine g_seq (g_app rfl (ev_tupleL ev_own) (by simp) ?_)
      refine g_ifT ((et_not (et_truB (ev_var (i := 3) (d := .bl false)))).is rfl) ?_
      refine g_freeze (i := 9) rfl ?_
      refine g_retF ((ev_tp (ea_cons ev_var (ea_cons ev_var ea_nil))).is ?_) (by rw [hrt]; exact hr)
      rw [hres.1, hres.2]; rfl
    · have he : row.length < n := by have := of_decide_eq_false e; omega
      have hl1 : atI ((useds row).map nI) (-1) = some (nI (mx row)) := by
        have hlen' : ((useds row).map nI).length = row.length + 1 := by rw [List.length_map, useds_len]
        unfold atI ixN
        rw [hlen', if_neg (by omega), if_pos (by omega)]
        show ((useds row).map nI)[((-1 : Int) + ((row.length + 1 : Nat) : Int)).toNat]? = _
        have e1 : ((-1 : Int) + ((row.length + 1 : Nat) : Int)).toNat = row.length := by omega
        rw [e1, List.getElem?_map, useds_last]; rfl
      have hend : ∀ {Γ : List Sl}, Γ[6]? = some (.own ((useds row).map nI)) → EvG c A' Γ (tOp (rIxA c.K) (tVar 6) (tUn (rU fun i => .int (-i)) (tC (.int 1)))) (nI (mx row)) := fun h => ev_ixA (ev_own h) (ev_neg ev_int) hl1
      have hmn : min ((mx row : Int) + 1) (k : Int) = ((topC k row : Nat) : Int) := by unfold topC; omega
      refine q_set ((ev_min2 (ev_addA (hend rfl) ev_int) ev_var).is (e := nI (topC k row)) (by rw [hmn]; rfl)) ?_
      have hat : atI ((lower n E).map fun r => D.lst (r.map nI)) ((row.length : Nat) : Int) = some (.lst ((lowOf row.length E).map nI)) := atI_nat (by rw [List.getElem?_map, lower_at he]; rfl)
      have htop : topC k row ≤ 6 := by unfold topC; omega
      have hlow : (lower n E).getD row.length [] = lowOf row.length E := by rw [List.getD_eq_getElem?_getD, lower_at he]; rfl
      refine g_set (d := optN ((free (lower n E) k row s).head?)) (ev_callFH (ds := [.lst (row.map nI), .lst ((lowOf row.length E).map nI), nI s, nI (topC k row)]) (eh_own rfl (EvA.h (ea_cons (ev_ixA (ds := (lower n E).map fun r => .lst (r.map nI)) (EvG.l (EvG.is (ev_var (i := 4) (d := dL)) hL.symm)) (hlenE rfl) hat) (ea_cons ev_var (ea_cons ev_var ea_nil)))))
        ⟨row, lowOf row.length E, s, topC k row, rfl, fun u hu => (ok.lt _ (mem_lowOf.mp hu)).1, by have := lowOf_len row.length E; have := ok.few; omega, by omega, by omega, by
          show optN _ = optN _
          rw [free_eq]; unfold takenOf; rw [hlow]⟩ (by cases (free (lower n E) k row s).head? <;> rfl)) (by simp) ?_
      show GoN c A' [.dat (gR c.K n E), .dat (nI k), .dat (nI 5000), .dat (.bl false), .dat dL, .own (row.map nI), .own ((useds row).map nI), .dat (nI s), .dat (nI cn), .own [], .dat (optN ((free (lower n E) k row s).head?)), .dat (nI (topC k row))] _
      refine g_if (et_test (ev_notNA ev_var)) (fun e => ?_) fun e => ?_
      · -- a colour is found
        obtain ⟨x, hx⟩ : ∃ x, (free (lower n E) k row s).head? = some x := by
          cases q : (free (lower n E) k row s).head? with
          | none => rw [q] at e; cases e
          | some x => exact ⟨x, rfl⟩
        rw [hx]
        show GoS c A' [.dat (gR c.K n E), .dat (nI k), .dat (nI 5000), .dat (.bl false), .dat dL, .own (row.map nI), .own ((useds row).map nI), .dat (nI s), .dat (nI cn), .own [], .dat (nI x), .dat (nI (topC k row))] _ De'
        obtain ⟨m', hm, hrun'⟩ : ∃ m', m' < m ∧ Run (lower n E) k n (row ++ [x]) 0 (cn + 1) fr fc m' := by
          cases hrun with
          | full h => omega
          | push _ h1 h2 => rw [hx] at h1; cases h1; exact ⟨_, by omega, h2⟩
          | pop _ h1 _ _ => rw [hx] at h1; cases h1
          | stop _ h1 => rw [hx] at h1; cases h1
        have hcn := hrun'.mono
        have hxm : x < topC k row := (mem_free.mp (List.mem_of_mem_head? (by rw [hx]; rfl))).1
        have hxk : x < k := by unfold topC at hxm; omega
        refine g_seq (g_aug (a := (cn : Int)) (b := 1) rfl ev_int ?_)
        show GoN c A' [.dat (gR c.K n E), .dat (nI k), .dat (nI 5000), .dat (.bl false), .dat dL, .own (row.map nI), .own ((useds row).map nI), .dat (nI s), .dat (.int ((cn : Int) + 1)), .own [], .dat (nI x), .dat (nI (topC k row))] _
        refine q_no ((et_test (ev_gt ev_var ev_var)).is (decide_eq_false (by omega))) ?_
        refine g_seq (g_app rfl ev_var (by rw [List.length_map]; omega) ?_)
        have hmax : max (mx row : Int) ((x : Int) + 1) = ((mx (row ++ [x]) : Nat) : Int) := by rw [mx_app]; simp only [mx]; omega
        refine g_seq (g_app (ds := (useds row).map nI) rfl ((ev_max2 (hend rfl) (ev_addA ev_var ev_int)).is (e := nI (mx (row ++ [x]))) (by rw [hmax]; rfl)) (by rw [List.length_map, useds_len]; omega) ?_)
        refine g_set ev_int (by simp) (n_wk ?_ (hnx ⟨row ++ [x], 0, cn + 1, m'⟩ ⟨hrun', by simp; omega, Nat.zero_le _, fun y hy => ?_⟩ hm))
        · show Wk _ [.dat (gR c.K n E), .dat (nI k), .dat (nI 5000), .dat (.bl false), .dat dL, .own ((row ++ [x]).map nI), .own ((useds (row ++ [x])).map nI), .dat (nI 0), .dat (nI (cn + 1)), .own [], .any, .any]
          rw [useds_app, List.map_append, List.map_append]
          exact .same (.same (.same (.same (.same (.same (.same (.same (.same (.same (.any (.any .nil)))))))))))
        · rcases List.mem_append.mp hy with hy | hy
          · exact hrow y hy
          · simp at hy; omega
      · -- none is left
        have hx : (free (lower n E) k row s).head? = none := by
          cases q : (free (lower n E) k row s).head? with
          | none => rfl
          | some x => rw [q] at e; cases e
        rw [hx]
        show GoS c A' [.dat (gR c.K n E), .dat (nI k), .dat (nI 5000), .dat (.bl false), .dat dL, .own (row.map nI), .own ((useds row).map nI), .dat (nI s), .dat (nI cn), .own [], .dat .non, .dat (nI (topC k row))] _ De'
        refine g_if (et_truL ev_own) (fun e2 => ?_) fun e2 => ?_
        · have hne : row ≠ [] := fun z => by rw [z] at e2; cases e2
          have hgl : row.getLast? = some (row.getLast hne) := List.getLast?_eq_getLast hne
          obtain ⟨m', hm, hrun'⟩ : ∃ m', m' < m ∧ Run (lower n E) k n row.dropLast (row.getLast hne + 1) cn fr fc m' := by
            cases hrun with
            | full h => omega
            | push _ h1 h2 => rw [hx] at h1; cases h1
            | pop _ _ h1 h2 => rw [hgl] at h1; cases h1; exact ⟨_, by omega, h2⟩
            | stop _ h1 => exact absurd rfl hne
          have hlast : (row.map nI)[(row.map nI).length - 1]? = some (nI (row.getLast hne)) := by
            rw [List.getElem?_map, List.length_map, ← List.getLast?_eq_getElem?, hgl]; rfl
          have hu : ((useds row).map nI)[((useds row).map nI).length - 1]? = some (nI (mx row)) := by
            rw [List.length_map, useds_len, List.getElem?_map]
            show ((useds row)[row.length]?).map nI = _
            rw [useds_last]; rfl
          refine q_setX (x_addA (x_pop rfl hlast) ev_int) ?_
          refine g_dropX (x_pop (ds := (useds row).map nI) rfl hu) (n_wk ?_ (hnx ⟨row.dropLast, row.getLast hne + 1, cn, m'⟩ ⟨hrun', by simp; omega, ?_, fun y hy => hrow y (List.dropLast_subset row hy)⟩ hm))
          · show Wk _ [.dat (gR c.K n E), .dat (nI k), .dat (nI 5000), .dat (.bl false), .dat dL, .own (row.dropLast.map nI), .own ((useds row.dropLast).map nI), .dat (nI (row.getLast hne + 1)), .dat (nI cn), .own [], .any, .any]
            rw [← useds_drop hne, List.map_dropLast, List.map_dropLast]
            exact .same (.same (.same (.same (.same (.same (.same (.same (.same (.same (.any (.any .nil)))))))))))
          · have := hrow _ (List.getLast_mem hne); show row.getLast hne + 1 ≤ 100; omega
        · have hne : row = [] := by
            cases row with
            | nil => rfl
            | cons _ _ => cases e2
          subst hne
          have hres : fr = none ∧ fc = cn := by
            cases hrun with
            | full h => omega
            | push _ h1 _ => rw [hx] at h1; cases h1
            | pop _ _ h1 _ => cases h1
            | stop _ _ => exact ⟨rfl, rfl⟩
          refine g_freeze (i := 9) rfl ?_
          refine g_retF ((ev_tp (ea_cons ev_var (ea_cons ev_var ea_nil))).is ?_) (by rw [hrt]; exact hr)
          rw [hres.1, hres.2]
end
end HD
end
section
set_option Elab.async false
set_option linter.all false
set_option maxRecDepth 100000
set_option maxHeartbeats 4000000
/-! S7: the first colouring, critical graphs. -/
namespace HD
open PySem PySem.Spec L2 DL CM
theorem colD_non (o : Option (List Nat)) : (colD o).isNon = o.isNone := by cases o <;> rfl
section
variable {K : PySem.W.Frag} (gf : GF K)
include gf
theorem r_first_colouring : ∀ vs H Q E, spF K (P_first_colouring K) vs H Q E → t_first_colouring K (spF K P_checked_k) (spF K (P__visited K)) { nx := fun _ H' => Q .non H', rt := Q } (L2.start ["graph", "k", "found"] vs) H :=
  rd_ofF fun c A ds d De hK hp hr hn => by
    obtain ⟨n, E, k, rfl, ok, k1, k6, hc, rfl⟩ := hp
    subst hK
    show GoS c A [.dat (gR c.K n E), .dat (nI k), .any] (t_first_colouring c.K _ _) De
    refine q_drop (ev_callF (ea_cons ev_var ea_nil) ⟨k, rfl, k1, k6, rfl⟩) ?_
    refine q_set (ev_ixAT (ev_callF (ea_cons ev_var (ea_cons ev_var (ea_cons ev_int (ea_cons ev_bl ea_nil)))) ⟨n, E, k, rfl, ok, k1, k6, hc, rfl⟩) ev_int rfl) ?_
    cases q : firstCol n E k with
    | none =>
      rw [q] at hr
      refine g_seq (g_ifT ((et_not (et_truL (ds := []) (EvG.l ev_var))).is rfl) (g_retF ev_non hr))
    | some r =>
      rw [q] at hr
      refine q_no ((et_not (et_truL (ds := [.tup (r.map nI)]) (EvG.l ev_var))).is rfl) ?_
      exact g_retF (ev_ixA (ds := [.tup (r.map nI)]) (EvG.l ev_var) ev_int rfl) hr
theorem r_has_bare_node : ∀ vs H Q E, spF K (P_has_bare_node K) vs H Q E → t_has_bare_node K (spF K (P_Graph_degree K)) { nx := fun _ H' => Q .non H', rt := Q } (L2.start ["graph", "node"] vs) H :=
  rd_ofF fun c A ds d De hK hp hr hn => by
    obtain ⟨n, E, rfl, h0, rfl⟩ := hp
    subst hK
    show GoS c A [.dat (gR c.K n E), .any] (t_has_bare_node c.K _) De
    refine g_seq (g_forRJ (n := n) (ev_nodes gf ev_var) (by omega) (fun i => [.dat (gR c.K n E), .any]) (fun i => ∀ v, v < i → (nearOf v E).length ≠ 0) (Wk.refl _) (fun v h => by omega) (by simp) (fun i A' De' hi hJ hrt hnx hct hbk => ?_) fun hJ => ?_)
    · show GoS c A' [.dat (gR c.K n E), .dat (nI i)] _ De'
      refine g_if (et_test (ev_eqN (b := 0) (ev_deg gf ev_var ev_var hi) ev_int)) (fun e => ?_) fun e => g_next (n_wk (.same (.any .nil)) (hnx fun v hv => ?_))
      · have he := of_decide_eq_true e
        refine g_retF (EvG.is ev_bl ?_) (by rw [hrt]; exact hr)
        have : bareB n E = true := List.any_eq_true.mpr ⟨i, List.mem_range.mpr hi, decide_eq_true he⟩
        rw [this]
      · by_cases q : v = i
        · subst q; exact of_decide_eq_false e
        · exact hJ v (by omega)
    · refine g_retF (EvG.is ev_bl ?_) hr
      have : bareB n E = false := by
        unfold bareB
        rw [List.any_eq_false]
        intro v hv
        rw [List.mem_range] at hv
        simpa using hJ v hv
      rw [this]
theorem r_edge_colourings : ∀ vs H Q E, spF K (P_edge_colourings K) vs H Q E → t_edge_colourings K (spF K (P_has_bare_node K)) (spF K (P_first_colouring K)) (spF K (P_Graph_without_edge K)) { nx := fun _ H' => Q .non H', rt := Q } (L2.start ["graph", "k", "found", "u", "v", "colours"] vs) H :=
  rd_ofF fun c A ds d De hK hp hr hn => by
    obtain ⟨n, E, k, rfl, ⟨ok, k1, k6, c0, c1⟩, rfl⟩ := hp
    subst hK
    show GoS c A [.dat (gR c.K n E), .dat (nI k), .any, .any, .any, .any] (t_edge_colourings c.K _ _ _) De
    have hfc : EvG c A [.dat (gR c.K n E), .dat (nI k), .any, .any, .any, .any] (tCall (spF c.K (P_first_colouring c.K)) [] E0 (tCons (tVar 0) (tCons (tVar 1) tNil))) (colD (firstCol n E k)) := ev_callF (ea_cons ev_var (ea_cons ev_var ea_nil)) ⟨n, E, k, rfl, ok, k1, k6, c0, rfl⟩
    refine q_if (et_or (et_truB (ev_callF (ea_cons ev_var ea_nil) ⟨n, E, rfl, ok.le, rfl⟩)) fun _ => et_test (ev_notNA hfc)) (fun e => ?_) fun e => ?_
    · refine g_retF (EvG.is ev_non ?_) hr
      have : critB n E k = false := by
        unfold critB
        rw [colD_non] at e
        rcases Bool.or_eq_true_iff.mp e with h | h
        · rw [h]; rfl
        · have h' : (firstCol n E k).isNone = false := by simpa using h
          rw [h', Bool.false_and, Bool.and_false]
      rw [this]; rfl
    · rw [colD_non, Bool.or_eq_false_iff] at e
      have hb := e.1
      have hf : (firstCol n E k).isNone = true := by simpa using e.2
      refine q_setN (en_ls ea_nil) ?_
      refine q_forTJ E pN (fun i => [.dat (gR c.K n E), .dat (nI k), .own ((E.take i).map fun e => colD (firstCol n (less E e) k)), .any, .any, .any]) (fun i => ∀ e ∈ E.take i, (firstCol n (less E e) k).isSome = true) (fun i p => [.dat (gR c.K n E), .dat (nI k), .own ((E.take i).map fun e => colD (firstCol n (less E e) k)), .dat (nI p.1), .dat (nI p.2), .any])
        (ev_edges gf ev_var) (Wk.refl _) (fun e h => by cases h) (js := [3, 4]) (fun i x A' hx => ga_pair (Γ := [.dat (gR c.K n E), .dat (nI k), .own ((E.take i).map fun e => colD (firstCol n (less E e) k)), .any, .any, .any]) x) (fun i p A' De' hx hJ hrt hnx hct hbk => ?_) fun hJ => ?_
      · have hm := List.mem_of_getElem? hx
        obtain ⟨a1, a2⟩ := ok.lt p hm
        have hn' : norm (p.1, p.2) = p := norm_lt a1
        refine q_set (ev_callF (d := colD (firstCol n (less E p) k)) (ea_cons (ev_methF (d := gR c.K n (less E p)) (ev_var (i := 0)) (by decide +kernel) (ea_cons ev_var (ea_cons ev_var ea_nil)) ⟨n, E, p.1, p.2, rfl, ok, by omega, a2, by omega, by rw [hn']; exact hm, by rw [hn']⟩) (ea_cons ev_var ea_nil)) ⟨n, less E p, k, rfl, ok.less p, k1, k6, c1 p hm, rfl⟩) ?_
        refine q_if (et_test (ev_isNA ev_var)) (fun e => ?_) fun e => ?_
        · refine g_retF (EvG.is ev_non ?_) (by show RetOk c _ De'.rt; rw [hrt]; exact hr)
          have : critB n E k = false := by
            unfold critB
            have : (E.all fun e => (firstCol n (less E e) k).isSome) = false := by
              rw [List.all_eq_false]
              refine ⟨p, hm, ?_⟩
              rw [colD_non] at e
              cases q : firstCol n (less E p) k with
              | none => simp
              | some _ => rw [q] at e; cases e
            rw [this, Bool.and_false, Bool.and_false]
          rw [this]; rfl
        · have hs : (firstCol n (less E p) k).isSome = true := by
            rw [colD_non] at e
            cases q : firstCol n (less E p) k with
            | none => rw [q] at e; cases e
            | some _ => rfl
          refine g_app rfl ev_var (by have := ok.few; rw [List.length_map, List.length_take]; omega) (n_wk ?_ (hnx fun e he => ?_))
          · rw [List.take_add_one, hx, List.map_append]
            exact .same (.same (.same (.any (.any (.any .nil)))))
          · rw [List.take_add_one, hx] at he
            rcases List.mem_append.mp he with he | he
            · exact hJ e he
            · simp at he; subst he; exact hs
      · rw [List.take_length] at hJ ⊢
        refine g_freeze (i := 2) rfl (g_retF (EvG.is (ev_var (i := 2) (d := .lst (E.map fun e => colD (firstCol n (less E e) k)))) ?_) hr)
        have : critB n E k = true := by
          unfold critB
          rw [hb, hf, List.all_eq_true.mpr hJ]; rfl
        rw [this]; rfl
theorem r_is_critical : ∀ vs H Q E, spF K (P_is_critical K) vs H Q E → t_is_critical K (spF K P_checked_k) (spF K (P_edge_colourings K)) { nx := fun _ H' => Q .non H', rt := Q } (L2.start ["graph", "k"] vs) H :=
  rd_ofF fun c A ds d De hK hp hr hn => by
    obtain ⟨n, E, k, rfl, cr, rfl⟩ := hp
    subst hK
    show GoS c A [.dat (gR c.K n E), .dat (nI k)] (t_is_critical c.K _ _) De
    refine q_drop (ev_callF (ea_cons ev_var ea_nil) ⟨k, rfl, cr.k1, cr.k6, rfl⟩) ?_
    refine g_retF ((ev_notNA (ev_callF (ea_cons ev_var (ea_cons ev_var ea_nil)) ⟨n, E, k, rfl, cr, rfl⟩)).is ?_) hr
    cases critB n E k <;> rfl
end
end HD
end
section
set_option Elab.async false
set_option linter.all false
set_option maxRecDepth 100000
set_option maxHeartbeats 4000000
/-! S8: the law's own helpers. -/
namespace HD
open PySem PySem.Spec L2 DL CM
def lG (n : Nat) (E : List Pr) : D := .lst [nI n, .lst (E.map pN)]
def srcZ (ns : List Int) (p : Nat) : Int :=
  let cell : Int := if ns.length = 0 then 0 else ns.getD (p % ns.length) 0
  if 10 ^ 18 ≤ cell ∧ p < ns.length then (cell - 10 ^ 18).fmod (10 ^ 60) else
  let small := cell.fmod 2147483647
  let one := (small * 48271 + p * 69621 + 12345).fmod 2147483647
  let two := (one * 16807 + small.fdiv 7 + p * 331).fmod 2147483629
  let three := (two * 48271 + one * 69621 + 1).fmod 2147483587
  two * 2147483587 + three
def P__law_whole (ds : List D) (d : D) : Prop := ∃ i : Int, ds = [.int i] ∧ d = .bl true
def P__law_wholes (ds : List D) (d : D) : Prop := ∃ xs : List Nat, ds = [.tup (xs.map nI)] ∧ xs.length ≤ 1000 ∧ d = .bl true
def P__law_source (ds : List D) (d : D) : Prop := ∃ (ns : List Int) (p : Nat), ds = [.sq (ns.map D.int), nI p] ∧ ns.length ≤ 63 ∧ d = .int (srcZ ns p)
def P__law_form (K : PySem.W.Frag) (ds : List D) (d : D) : Prop := ∃ n E, ds = [gR K n E] ∧ GOk n E ∧ d = lG n E
def P__law_beside (ds : List D) (d : D) : Prop := ∃ n E, ds = [nI n, .lst (E.map pN)] ∧ GOk n E ∧ d = .lst ((near n E).map fun r => .lst ((sortN r).map nI))
/-- the numbers left, the number left, the order so far -/
def ordS (n : Nat) (z : Int) : Nat → List Nat × Int × List Nat
  | 0 => (List.range n, z, [])
  | v + 1 => ((ordS n z v).1.eraseIdx (((ordS n z v).2.1.fmod ((n - v : Nat) : Int)).toNat), (ordS n z v).2.1.fdiv ((n - v : Nat) : Int), (ordS n z v).2.2 ++ [(ordS n z v).1.getD (((ordS n z v).2.1.fmod ((n - v : Nat) : Int)).toNat) 0])
def orderF (n : Nat) (z : Int) : List Nat := (ordS n z n).2.2
def P__law_order (ds : List D) (d : D) : Prop := ∃ (n : Nat) (z : Int), ds = [nI n, .int z] ∧ n ≤ 48 ∧ d = .lst ((orderF n z).map nI)
def mapE (E : List Pr) (im : List Nat) : List Pr := sortE (E.map fun p => norm (im.getD p.1 0, im.getD p.2 0))
def P__law_mapped (ds : List D) (d : D) : Prop := ∃ (E : List Pr) (im : List Nat), ds = [.lst (E.map pN), .lst (im.map nI)] ∧ (∀ p ∈ E, p.1 < im.length ∧ p.2 < im.length) ∧ E.length ≤ 2000 ∧ d = .lst ((mapE E im).map pN)
def clqS (n i : Nat) : List Pr := (List.range i).flatMap fun u => (List.range (n - (u + 1))).map fun j => (u, u + 1 + j)
def clqE (n : Nat) : List Pr := clqS n n
def P__law_clique (ds : List D) (d : D) : Prop := ∃ n : Nat, ds = [nI n] ∧ n ≤ 48 ∧ d = lG n (clqE n)
def rimE (n : Nat) (hub : Bool) : List Pr := sortE ((((List.range (n - 1)).map fun v => (v, v + 1)) ++ [(0, n - 1)]) ++ if hub then (List.range n).map fun v => (v, n) else [])
def P__law_rim (ds : List D) (d : D) : Prop := ∃ (n : Nat) (hub : Bool), ds = [nI n, .bl hub] ∧ 1 ≤ n ∧ n ≤ 40 ∧ d = lG (if hub then n + 1 else n) (rimE n hub)
def subsF (row : List Nat) : List (List Nat) := row.foldl (fun L x => L ++ L.map (· ++ [x])) [[]]
def lotsF (row : List Nat) : List (List Nat) := ((subsF row).drop 1).dropLast
def lotD (l : List Nat) : D := .lst (l.map nI)
def P__law_lots (ds : List D) (d : D) : Prop := ∃ row : List Nat, ds = [.lst (row.map nI)] ∧ row.length ≤ 10 ∧ d = .lst ((lotsF row).map lotD)
def place (n1 node v : Nat) : Nat := n1 + v - if node < v then 1 else 0
def joinL (n1 : Nat) (E1 : List Pr) (x y : Nat) (E2 : List Pr) (node : Nat) (mv : List Nat) : List Pr :=
  less E1 (norm (x, y)) ++ E2.map fun p => if p.1 ≠ node ∧ p.2 ≠ node then (place n1 node p.1, place n1 node p.2) else if mv.contains (p.1 + p.2 - node) then (y, place n1 node (p.1 + p.2 - node)) else (x, place n1 node (p.1 + p.2 - node))
def partL (n2 : Nat) (E2 : List Pr) (node : Nat) (mv : List Nat) : List Pr := E2.map fun p => if (p.1 = node ∨ p.2 = node) ∧ mv.contains (p.1 + p.2 - node) = true then (p.1 + p.2 - node, n2) else p
def P__law_joined (ds : List D) (d : D) : Prop := ∃ n1 E1 x y n2 E2 node mv, ds = [lG n1 E1, nI x, nI y, lG n2 E2, nI node, .lst (mv.map nI)] ∧ GOk n1 E1 ∧ GOk n2 E2 ∧ 1 ≤ n1 ∧ node < n2 ∧ d = lG (n1 + n2 - 1) (sortE (joinL n1 E1 x y E2 node mv))
def P__law_parted (ds : List D) (d : D) : Prop := ∃ n2 E2 node mv, ds = [lG n2 E2, nI node, .lst (mv.map nI)] ∧ GOk n2 E2 ∧ node < n2 ∧ d = lG (n2 + 1) (sortE (partL n2 E2 node mv))
def twoE : List Pr := [(0, 1), (0, 2), (0, 3), (0, 4), (0, 5), (0, 6), (1, 3), (1, 4), (1, 7), (2, 3), (2, 8), (4, 6), (4, 7), (5, 6), (5, 8), (7, 8)]
def P__law_two_sides (ds : List D) (d : D) : Prop := ds = [] ∧ d = lG 9 twoE
section
variable {K : PySem.W.Frag}
theorem r__law_whole : ∀ vs H Q E, spF K P__law_whole vs H Q E → t__law_whole K { nx := fun _ H' => Q .non H', rt := Q } (L2.start ["one"] vs) H :=
  rd_ofF fun c A ds d De hK hp hr hn => by
    obtain ⟨i, rfl, rfl⟩ := hp
    subst hK
    show GoS c A [.dat (.int i)] (t__law_whole c.K) De
    exact g_retF (ev_andV (x := true) (y := true) (ev_isi ev_var rfl rfl) fun _ => ev_notV (x := false) (ev_isi ev_var rfl rfl)) hr
theorem r__law_wholes : ∀ vs H Q E, spF K P__law_wholes vs H Q E → t__law_wholes K (spF K P__law_whole) { nx := fun _ H' => Q .non H', rt := Q } (L2.start ["row", "one"] vs) H :=
  rd_ofF fun c A ds d De hK hp hr hn => by
    obtain ⟨xs, rfl, h1, rfl⟩ := hp
    subst hK
    show GoS c A [.dat (.tup (xs.map nI)), .any] (t__law_wholes c.K _) De
    refine g_retF (EvG.is (ev_andV (x := true) (y := (xs.map fun _ => true).all id) (ev_isi ev_var rfl rfl) fun _ => ev_allL (EvN.l ((en_lcST xs nI (fun _ => true) (fun _ => .bl true) (fun u => [.dat (.tup (xs.map nI)), .dat (nI u)])
      ev_var (js := [1]) (by simp) (by omega) (fun x A' hx => gg_name (Γ := [.dat (.tup (xs.map nI)), .any]) (by simp)) (fun x A' hx => et_yes) (fun x A' hx _ => ev_callF (ea_cons ev_var ea_nil) ⟨_, rfl, rfl⟩)).is (by rw [filter_true, List.map_map]; rfl)))) ?_) hr
    congr 1
    simp
theorem cut63 {ns : List Int} (h : ns.length ≤ 63) : cutD (ns.map D.int) none (some 63) = ns.map D.int := by
  unfold cutD
  have e1 : HT.sIx (ns.map D.int).length 0 none = 0 := rfl
  have e2 : HT.sIx (ns.map D.int).length (ns.map D.int).length (some 63) = ns.length := by
    rw [List.length_map]
    unfold HT.sIx
    simp
    omega
  rw [e1, e2, List.drop_zero, Nat.sub_zero, List.take_of_length_le (by simp)]
theorem cmR {i j : Int} (h : -(2 ^ 64) < j ∧ j < 2 ^ 64) : CMul i j := .inr h
theorem r__law_source : ∀ vs H Q E, spF K P__law_source vs H Q E → t__law_source K { nx := fun _ H' => Q .non H', rt := Q } (L2.start ["script", "place", "cells", "cell", "small", "one", "two", "three"] vs) H :=
  rd_ofF fun c A ds d De hK hp hr hn => by
    obtain ⟨ns, p, rfl, h1, rfl⟩ := hp
    subst hK
    show GoS c A [.dat (.sq (ns.map .int)), .dat (nI p), .any, .any, .any, .any, .any, .any] (t__law_source c.K) De
    refine q_setN ((en_slice (EvG.lq ev_var) eo_none (eo_some ev_int)).is (cut63 h1)) ?_
    refine q_set ev_int ?_
    have hlen : ∀ {A : Hp} {Γ : List Sl}, Γ[2]? = some (.own (ns.map D.int)) → EvG c A Γ (tCB (rLenA c.K) (tCons (tVar 2) tNil)) (nI ns.length) := fun h => (ev_len (ev_own h)).is (by rw [List.length_map]; rfl)
    have rest : ∀ (cell : Int), cell = (if ns.length = 0 then 0 else ns.getD (p % ns.length) 0) → GoS c A [.dat (.sq (ns.map .int)), .dat (nI p), .own (ns.map .int), .dat (.int cell), .any, .any, .any, .any] (tSeq (tIfS (tAnd (tTest (tOp (rI0 fun i j => .bl (decide (j ≤ i))) (tVar 3) (tOp (rI CPow fun i j => .int (i ^ j.toNat)) (tC (.int 10)) (tC (.int 18))))) (tTest (tOp (rI0 fun i j => .bl (decide (i < j))) (tVar 1) (tCB (rLenA c.K) (tCons (tVar 2) tNil))))) (tRet (tOp (rI (fun _ j => j ≠ 0) fun i j => .int (i.fmod j)) (tCB rInt1A (tCons (tOp (rI0 fun i j => .int (i - j)) (tVar 3) (tOp (rI CPow fun i j => .int (i ^ j.toNat)) (tC (.int 10)) (tC (.int 18)))) tNil)) (tOp (rI CPow fun i j => .int (i ^ j.toNat)) (tC (.int 10)) (tC (.int 60))))) (tNext)) (tSeq (tAsg (tOp (rI (fun _ j => j ≠ 0) fun i j => .int (i.fmod j)) (tCB rInt1A (tCons (tVar 3) tNil)) (tC (.int 2147483647))) (gName 4)) (tSeq (tAsg (tOp (rI (fun _ j => j ≠ 0) fun i j => .int (i.fmod j)) (tCB rInt1A (tCons (tOp rAddA (tOp rAddA (tOp (rI CMul fun i j => .int (i * j)) (tVar 4) (tC (.int 48271))) (tOp (rI CMul fun i j => .int (i * j)) (tVar 1) (tC (.int 69621)))) (tC (.int 12345))) tNil)) (tC (.int 2147483647))) (gName 5)) (tSeq (tAsg (tOp (rI (fun _ j => j ≠ 0) fun i j => .int (i.fmod j)) (tCB rInt1A (tCons (tOp rAddA (tOp rAddA (tOp (rI CMul fun i j => .int (i * j)) (tVar 5) (tC (.int 16807))) (tOp (rI CDivN fun i j => .int (i.fdiv j)) (tVar 4) (tC (.int 7)))) (tOp (rI CMul fun i j => .int (i * j)) (tVar 1) (tC (.int 331)))) tNil)) (tC (.int 2147483629))) (gName 6)) (tSeq (tAsg (tOp (rI (fun _ j => j ≠ 0) fun i j => .int (i.fmod j)) (tCB rInt1A (tCons (tOp rAddA (tOp rAddA (tOp (rI CMul fun i j => .int (i * j)) (tVar 6) (tC (.int 48271))) (tOp (rI CMul fun i j => .int (i * j)) (tVar 5) (tC (.int 69621)))) (tC (.int 1))) tNil)) (tC (.int 2147483587))) (gName 7)) (tRet (tOp rAddA (tOp (rI CMul fun i j => .int (i * j)) (tVar 6) (tC (.int 2147483587))) (tVar 7)))))))) De := fun cell hcell => by
      have pw : ∀ {A : Hp} {Γ : List Sl} (m : Nat), m ≤ 1000 → EvG c A Γ (tOp (rI CPow fun i j => .int (i ^ j.toNat)) (tC (.int 10)) (tC (.int (m : Int)))) (.int (10 ^ m)) := fun m hm => ev_pow ev_int ev_int ⟨by omega, by omega, by decide⟩
      refine q_if (et_and (et_test (ev_ge ev_var (pw 18 (by decide)))) fun _ => et_test (ev_lt ev_var (hlen rfl))) (fun e => ?_) fun e => ?_
      · rw [Bool.and_eq_true] at e
        have e1 := of_decide_eq_true e.1
        have e2 := of_decide_eq_true e.2
        refine g_retF ((ev_mod (ev_int1 (ev_sub ev_var (pw 18 (by decide)))) (pw 60 (by decide)) (by decide)).is ?_) hr
        unfold srcZ
        simp only
        rw [← hcell, if_pos ⟨e1, by omega⟩]
      · have e' : ¬ (10 ^ 18 ≤ cell ∧ p < ns.length) := fun ⟨a, b⟩ => by
          rw [decide_eq_true a, decide_eq_true (by omega : (p : Int) < (ns.length : Int))] at e; cases e
        refine q_set (ev_mod (ev_int1 ev_var) ev_int (by decide)) ?_
        refine q_set (ev_mod (ev_int1 (ev_addA (ev_addA (ev_mul ev_var ev_int (cmR (by decide))) (ev_mul ev_var ev_int (cmR (by decide)))) ev_int)) ev_int (by decide)) ?_
        refine q_set (ev_mod (ev_int1 (ev_addA (ev_addA (ev_mul ev_var ev_int (cmR (by decide))) (ev_fdiv ev_var ev_int ⟨by decide, by decide⟩)) (ev_mul ev_var ev_int (cmR (by decide))))) ev_int (by decide)) ?_
        refine q_set (ev_mod (ev_int1 (ev_addA (ev_addA (ev_mul ev_var ev_int (cmR (by decide))) (ev_mul ev_var ev_int (cmR (by decide)))) ev_int)) ev_int (by decide)) ?_
        refine g_retF ((ev_addA (ev_mul ev_var ev_int (cmR (by decide))) ev_var).is ?_) hr
        unfold srcZ
        simp only
        rw [← hcell, if_neg e']
    refine g_seq (g_if (et_test (ev_gt (hlen rfl) ev_int)) (fun e => ?_) fun e => ?_)
    · have e' : 0 < ns.length := by have := of_decide_eq_true e; omega
      have hm : Int.fmod (p : Int) (ns.length : Int) = ((p % ns.length : Nat) : Int) := by
        rw [Int.fmod_eq_emod_of_nonneg _ (by omega)]; rfl
      have hlt : p % ns.length < ns.length := Nat.mod_lt _ e'
      refine g_set (d := .int (ns.getD (p % ns.length) 0)) (ev_ixA (ev_own (ds := ns.map D.int)) ((ev_mod ev_var (hlen rfl) (by omega)).is (by rw [hm])) (atI_nat (by
        rw [List.getElem?_map, List.getD_eq_getElem?_getD, List.getElem?_eq_getElem hlt]; rfl))) (by simp) ?_
      exact rest _ (by rw [if_neg (by omega)])
    · have e' : ns.length = 0 := by have := of_decide_eq_false e; omega
      exact g_next (rest 0 (by rw [if_pos e']))
end
end HD
end
section
set_option Elab.async false
set_option linter.all false
set_option maxRecDepth 100000
set_option maxHeartbeats 4000000
/-! S9: the law's own helpers, on. -/
namespace HD
open PySem PySem.Spec L2 DL CM
theorem erase_perm {α : Type} : ∀ {l : List α} {i : Nat} (h : i < l.length), (l[i] :: l.eraseIdx i).Perm l
  | a :: l, 0, _ => .refl _
  | a :: l, i + 1, h => ((List.Perm.swap a _ _).trans ((erase_perm (l := l) (i := i) (by simpa using h)).cons a))
theorem erase_map {α β : Type} (f : α → β) : ∀ (l : List α) (i : Nat), (l.eraseIdx i).map f = (l.map f).eraseIdx i
  | [], _ => by simp
  | a :: l, 0 => rfl
  | a :: l, i + 1 => by
    show f a :: (l.eraseIdx i).map f = f a :: (l.map f).eraseIdx i
    rw [erase_map f l i]
theorem ordS_perm (n : Nat) (z : Int) : ∀ v, v ≤ n → ((ordS n z v).2.2 ++ (ordS n z v).1).Perm (List.range n) ∧ (ordS n z v).1.length = n - v
  | 0, _ => ⟨.refl _, by simp [ordS]⟩
  | v + 1, h => by
    obtain ⟨h1, h2⟩ := ordS_perm n z v (by omega)
    simp only [ordS]
    generalize hi : ((ordS n z v).2.1.fmod ((n - v : Nat) : Int)).toNat = i
    have hlt : i < (ordS n z v).1.length := by
      have h3 := Int.fmod_lt_of_pos (ordS n z v).2.1 (b := ((n - v : Nat) : Int)) (by omega)
      have h4 := Int.fmod_nonneg_of_pos (ordS n z v).2.1 (b := ((n - v : Nat) : Int)) (by omega)
      omega
    refine ⟨?_, by rw [List.length_eraseIdx, if_pos hlt]; omega⟩
    refine List.Perm.trans ?_ h1
    rw [List.append_assoc]
    refine List.Perm.append_left _ ?_
    rw [List.getD_eq_getElem?_getD, List.getElem?_eq_getElem hlt]
    exact erase_perm hlt
theorem orderF_perm (n : Nat) (z : Int) : (orderF n z).Perm (List.range n) := by
  obtain ⟨h1, h2⟩ := ordS_perm n z n (Nat.le_refl _)
  have : (ordS n z n).1 = [] := List.length_eq_zero_iff.mp (by omega)
  rw [this, List.append_nil] at h1
  exact h1
theorem ordS_at (n : Nat) (z : Int) {v : Nat} (h : v < n) : ((ordS n z v).2.1.fmod ((n - v : Nat) : Int)) = ((((ordS n z v).2.1.fmod ((n - v : Nat) : Int)).toNat : Nat) : Int) ∧ ((ordS n z v).2.1.fmod ((n - v : Nat) : Int)).toNat < (ordS n z v).1.length := by
  have h2 := (ordS_perm n z v (by omega)).2
  have h3 := Int.fmod_lt_of_pos (ordS n z v).2.1 (b := ((n - v : Nat) : Int)) (by omega)
  have h4 := Int.fmod_nonneg_of_pos (ordS n z v).2.1 (b := ((n - v : Nat) : Int)) (by omega)
  omega
theorem ordS_len (n : Nat) (z : Int) : ∀ v, (ordS n z v).2.2.length = v
  | 0 => rfl
  | v + 1 => by simp only [ordS]; rw [List.length_append, ordS_len n z v]; rfl
theorem subs_step (row : List Nat) (i : Nat) (x : Nat) (h : row[i]? = some x) : subsF (row.take (i + 1)) = subsF (row.take i) ++ (subsF (row.take i)).map (· ++ [x]) := by
  unfold subsF
  rw [List.take_add_one, h, List.foldl_append]; rfl
theorem subs_len : ∀ (row : List Nat), (subsF row).length = 2 ^ row.length := by
  intro row
  unfold subsF
  suffices ∀ (l : List Nat) (L : List (List Nat)), (l.foldl (fun L x => L ++ L.map (· ++ [x])) L).length = L.length * 2 ^ l.length by
    rw [this]; simp
  intro l
  induction l with
  | nil => intro L; simp
  | cons x l ih =>
    intro L
    rw [List.foldl_cons, ih, List.length_append, List.length_map, List.length_cons, Nat.pow_succ]
    rw [← Nat.two_mul, Nat.mul_comm 2, Nat.mul_assoc, Nat.mul_comm 2]
theorem subs_small (row : List Nat) (h : row.length ≤ 10) : (subsF row).length ≤ 1024 := by
  rw [subs_len]
  calc 2 ^ row.length ≤ 2 ^ 10 := Nat.pow_le_pow_right (by decide) h
    _ = 1024 := by decide
theorem subs_mem_len (row : List Nat) : ∀ l ∈ subsF row, l.length ≤ row.length := by
  unfold subsF
  suffices ∀ (r : List Nat) (L : List (List Nat)) (m : Nat), (∀ l ∈ L, l.length ≤ m) → ∀ l ∈ r.foldl (fun L x => L ++ L.map (· ++ [x])) L, l.length ≤ m + r.length by
    intro l hl
    have := this row [[]] 0 (by simp) l hl
    omega
  intro r
  induction r with
  | nil => intro L m h l hl; simpa using h l hl
  | cons x r ih =>
    intro L m h l hl
    rw [List.foldl_cons] at hl
    have := ih (L ++ L.map (· ++ [x])) (m + 1) (fun y hy => by
      rcases List.mem_append.mp hy with hy | hy
      · have := h y hy; omega
      · obtain ⟨z, hz, rfl⟩ := List.mem_map.mp hy
        have := h z hz; simp; omega) l hl
    simp; omega
theorem clqS_step (n i : Nat) : clqS n (i + 1) = clqS n i ++ (List.range (n - (i + 1))).map fun j => (i, i + 1 + j) := by
  unfold clqS
  rw [List.range_succ, List.flatMap_append, List.flatMap_singleton]
theorem clqS_len (n : Nat) : ∀ i, (clqS n i).length ≤ i * n
  | 0 => by simp [clqS]
  | i + 1 => by
    have := clqS_len n i
    rw [clqS_step, List.length_append, List.length_map, List.length_range, Nat.succ_mul]; omega
theorem sort2 (a b : Nat) : sortN [a, b] = [(norm (a, b)).1, (norm (a, b)).2] := by
  unfold sortN sortN insN norm
  by_cases h : a < b
  · have : ¬ b < a := by omega
    simp [insN, h, this, sortN]
  · by_cases h2 : b < a
    · simp [insN, h, h2, sortN]
    · have : a = b := by omega
      subst this
      simp [insN, sortN]
def pairL (p : Pr) : D := .lst [nI p.1, nI p.2]
theorem norm_mm (x y : Nat) : norm (x, y) = if x < y then (x, y) else (y, x) := rfl
section
variable {K : PySem.W.Frag} (gf : GF K)
include gf
theorem r__law_form : ∀ vs H Q E, spF K (P__law_form K) vs H Q E → t__law_form K (spF K P__law_whole) (spF K P__law_wholes) { nx := fun _ H' => Q .non H', rt := Q } (L2.start ["graph", "pair"] vs) H :=
  rd_ofF fun c A ds d De hK hp hr hn => by
    obtain ⟨n, E, rfl, ok, rfl⟩ := hp
    subst hK
    show GoS c A [.dat (gR c.K n E), .any] (t__law_form c.K _ _) De
    refine q_no (et_orF ((et_not (et_truB (ev_isiC gf.ins ev_var))).is rfl) ((et_not (et_truB (ev_callF (ea_cons (ev_nodes gf ev_var) ea_nil) ⟨_, rfl, rfl⟩))).is rfl)) ?_
    refine q_no ((et_not (et_truB (ev_isi (ev_edges gf ev_var) rfl rfl))).is rfl) ?_
    refine q_forT E pN (fun i => [.dat (gR c.K n E), .any]) (fun i p => [.dat (gR c.K n E), .dat (pN p)])
      (ev_edges gf ev_var) (Wk.refl _) (js := [1]) (fun i x A' hx => gg_name (Γ := [.dat (gR c.K n E), .any]) (by simp)) (fun i p A' De' hx hrt hnx hct hbk => ?_) ?_
    · exact g_ifF (et_orF ((et_not (et_truB (ev_callF (ea_cons ev_var ea_nil) ⟨[p.1, p.2], rfl, by simp, rfl⟩))).is rfl) ((et_test (ev_neD (d1 := .int 2) (d2 := .int 2) ((ev_lenT (ds := [nI p.1, nI p.2]) ev_var).is rfl) ev_int rfl rfl rfl rfl)).is rfl)) (g_next (n_wk (.same (.any .nil)) hnx))
    · refine g_retF ((en_ls (ea_cons (ev_nodes gf ev_var) (ea_cons (EvN.g ((en_lcST E pN (fun _ => true) pN (fun p => [.dat (gR c.K n E), .dat (pN p)]) (ev_edges gf ev_var) (js := [1]) (by simp) (by have := ok.few; omega)
        (fun x A' hx => gg_name (Γ := [.dat (gR c.K n E), .any]) (by simp)) (fun x A' hx => et_yes) (fun x A' hx _ => ev_var)).is (by rw [filter_true]))) ea_nil))).g) hr
omit gf
theorem r__law_beside : ∀ vs H Q E, spF K P__law_beside vs H Q E → t__law_beside K { nx := fun _ H' => Q .non H', rt := Q } (L2.start ["n", "pairs", "v", "near", "u", "row"] vs) H :=
  rd_ofF fun c A ds d De hK hp hr hn => by
    obtain ⟨n, E, rfl, ok, rfl⟩ := hp
    subst hK
    have hle := ok.le
    show GoS c A [.dat (nI n), .dat (.lst (E.map pN)), .any, .any, .any, .any] (t__law_beside c.K) De
    refine g_seq (g_set2 (n := n) ev_var (by omega) (by simp) ?_)
    refine q_for E pN (fun i => [.dat (nI n), .dat (.lst (E.map pN)), .any, .own2 ((near n (E.take i)).map (·.map nI)), .any, .any]) (fun i p => [.dat (nI n), .dat (.lst (E.map pN)), .dat (nI p.2), .own2 ((near n (E.take i)).map (·.map nI)), .dat (nI p.1), .any])
      ev_var ?_ (js := [4, 2]) (fun i x A' hx => ga_pair (Γ := [.dat (nI n), .dat (.lst (E.map pN)), .any, .own2 ((near n (E.take i)).map (·.map nI)), .any, .any]) x) (fun i p A' De' hx hrt hnx hct hbk => ?_) ?_
    · rw [List.take_zero, near_nil, List.map_replicate]
      exact Wk.refl _
    · have hm := List.mem_of_getElem? hx
      obtain ⟨a0, a2⟩ := ok.lt p hm
      have a1 : p.1 < n := by omega
      have a3 : p.1 ≠ p.2 := by omega
      have hlen : ∀ w, (nearOf w (E.take i)).length ≤ 4000 := fun w => by
        have h3 := nearOf_len w (E.take i)
        rw [List.length_take] at h3
        have := ok.few
        omega
      have e1 : ((near n (E.take i)).map (·.map nI))[p.1]? = some ((nearOf p.1 (E.take i)).map nI) := by rw [List.getElem?_map, near_at a1]; rfl
      refine g_seq (g_app2 (u := p.1) rfl ev_var e1 ev_var (by rw [List.length_map]; have := hlen p.1; omega) ?_)
      have e2 : (((near n (E.take i)).map (·.map nI)).set p.1 ((nearOf p.1 (E.take i)).map nI ++ [nI p.2]))[p.2]? = some ((nearOf p.2 (E.take i)).map nI) := by
        rw [List.getElem?_set_ne a3, List.getElem?_map, near_at a2]; rfl
      refine g_app2 (u := p.2) rfl ev_var e2 ev_var (by rw [List.length_map]; have := hlen p.2; omega) (n_wk ?_ hnx)
      have e3 : (near n (E.take (i + 1))).map (·.map nI) = (((near n (E.take i)).map (·.map nI)).set p.1 ((nearOf p.1 (E.take i)).map nI ++ [nI p.2])).set p.2 ((nearOf p.2 (E.take i)).map nI ++ [nI p.1]) := by
        rw [List.take_add_one, hx]
        show (near n (E.take i ++ [p])).map _ = _
        rw [near_step (u := p.1) (v := p.2) a1 a2 a3, List.map_set, List.map_set, List.map_append, List.map_append]
        rfl
      rw [e3]
      exact .same (.same (.any (.same (.any (.any .nil)))))
    · rw [List.take_length]
      refine g_freeze2 (i := 3) rfl ?_
      have hrow : ∀ r ∈ near n E, r.length ≤ 2000 := fun r hr => by
        obtain ⟨w, _, rfl⟩ := List.mem_map.mp hr
        have := nearOf_len w E
        have := ok.few
        omega
      refine g_retF (EvN.g ((en_lcS (near n E) (fun r => .lst (r.map nI)) (fun _ => true) (fun r => .lst ((sortN r).map nI)) (fun r => [.dat (nI n), .dat (.lst (E.map pN)), .any, .dat (.lst ((near n E).map fun r => .lst (r.map nI))), .any, .dat (.lst (r.map nI))]) (EvG.is (ev_var (i := 3) (d := .lst (((near n E).map (·.map nI)).map D.lst))) (by rw [List.map_map]; rfl)) (js := [5]) (by simp) (by rw [near_len]; omega)
        (fun x A' hx => ?_) (fun x A' hx => et_yes) (fun x A' hx _ => EvN.g (en_sortNs (xs := x) (EvG.l ev_var)))).is (by rw [filter_true]))) hr
      have e5 : (((near n E).map (·.map nI)).map D.lst) = (near n E).map fun r => D.lst (r.map nI) := by rw [List.map_map]; rfl
      rw [e5]
      exact gg_name (i := 5) (Γ := [.dat (nI n), .dat (.lst (E.map pN)), .any, .dat (.lst ((near n E).map fun r => .lst (r.map nI))), .any, .any]) (by simp)
theorem r__law_order : ∀ vs H Q E, spF K P__law_order vs H Q E → t__law_order K { nx := fun _ H' => Q .non H', rt := Q } (L2.start ["n", "number", "rest", "order", "v"] vs) H :=
  rd_ofF fun c A ds d De hK hp hr hn => by
    obtain ⟨n, z, rfl, h1, rfl⟩ := hp
    subst hK
    show GoS c A [.dat (nI n), .dat (.int z), .any, .any, .any] (t__law_order c.K) De
    refine q_setN ((en_lstRg (n := n) ev_var (by omega)).is (es := (List.range n).map nI) rfl) ?_
    refine q_setN (en_ls ea_nil) ?_
    refine g_seq (g_forR (n := n) ev_var (by omega) (fun i => [.dat (nI n), .dat (.int (ordS n z i).2.1), .own ((ordS n z i).1.map nI), .own ((ordS n z i).2.2.map nI), .any]) (Wk.refl _) (by simp) (fun i A' De' hi hrt hnx hct hbk => ?_) ?_)
    · show GoS c A' [.dat (nI n), .dat (.int (ordS n z i).2.1), .own ((ordS n z i).1.map nI), .own ((ordS n z i).2.2.map nI), .dat (nI i)] _ De'
      obtain ⟨q1, q2⟩ := ordS_at n z hi
      have hl := (ordS_perm n z i (by omega)).2
      have hl2 := ordS_len n z i
      have hsub : (n : Int) - (i : Int) = ((n - i : Nat) : Int) := by omega
      have hs : ∀ {A : Hp} {Γ : List Sl}, Γ[0]? = some (.dat (nI n)) → Γ[4]? = some (.dat (nI i)) → EvG c A Γ (tOp (rI0 fun i j => .int (i - j)) (tVar 0) (tVar 4)) (.int ((n - i : Nat) : Int)) := fun h1 h2 => (ev_sub (ev_var h1) (ev_var h2)).is (by rw [hsub])
      have hat : ((ordS n z i).1.map nI)[((ordS n z i).2.1.fmod ((n - i : Nat) : Int)).toNat]? = some (nI ((ordS n z i).1.getD (((ordS n z i).2.1.fmod ((n - i : Nat) : Int)).toNat) 0)) := by
        rw [List.getElem?_map, List.getD_eq_getElem?_getD, List.getElem?_eq_getElem q2]; rfl
      refine g_seq (g_appX (i := 3) (es := (ordS n z i).2.2.map nI) rfl (x_popAt (i := 2) (j := ((ordS n z i).2.1.fmod ((n - i : Nat) : Int)).toNat) rfl ((ev_mod (ev_int1 ev_var) (hs rfl rfl) (by omega)).is (congrArg D.int q1)) hat (by rw [List.length_map, hl]; omega)) (ds := (ordS n z i).2.2.map nI) rfl (by rw [List.length_map]; omega) ?_)
      refine g_set (ev_fdiv ev_var (hs rfl rfl) ⟨by omega, by omega⟩) (by simp) (n_wk ?_ hnx)
      simp only [ordS]
      rw [List.map_append, erase_map]
      exact .same (.same (.same (.same (.any .nil))))
    · refine g_freeze (i := 3) rfl ?_
      exact g_retF ev_var hr
theorem nn_at {im : List Nat} {n u : Nat} (h : im.length = n) (hu : u < n) : atI (im.map nI) (u : Int) = some (nI (im.getD u 0)) := by
  refine atI_nat ?_
  rw [List.getElem?_map, List.getD_eq_getElem?_getD, List.getElem?_eq_getElem (by omega)]; rfl
theorem r__law_mapped : ∀ vs H Q E, spF K P__law_mapped vs H Q E → t__law_mapped K { nx := fun _ H' => Q .non H', rt := Q } (L2.start ["pairs", "images", "rows", "u", "v", "row"] vs) H :=
  rd_ofF fun c A ds d De hK hp hr hn => by
    obtain ⟨E, im, rfl, h1, h2, rfl⟩ := hp
    subst hK
    show GoS c A [.dat (.lst (E.map pN)), .dat (.lst (im.map nI)), .any, .any, .any, .any] (t__law_mapped c.K) De
    let f : Pr → Pr := fun p => norm (im.getD p.1 0, im.getD p.2 0)
    refine q_set (d := .lst ((E.map f).map pairL)) (EvN.g ((en_lcS E pN (fun _ => true) (fun p => .lst ((sortN [im.getD p.1 0, im.getD p.2 0]).map nI)) (fun p => [.dat (.lst (E.map pN)), .dat (.lst (im.map nI)), .any, .dat (nI p.1), .dat (nI p.2), .any])
      ev_var (js := [3, 4]) (by simp) (by omega) (fun x A' hx => ga_pair (Γ := [.dat (.lst (E.map pN)), .dat (.lst (im.map nI)), .any, .any, .any, .any]) x) (fun x A' hx => et_yes) (fun x A' hx _ => EvN.g (en_sortNs (xs := [im.getD x.1 0, im.getD x.2 0]) (EvN.l (en_ls (ea_cons (ev_ixA (EvG.l ev_var) ev_var (nn_at rfl (h1 x hx).1)) (ea_cons (ev_ixA (EvG.l ev_var) ev_var (nn_at rfl (h1 x hx).2)) ea_nil))))))).is (by
        rw [filter_true, List.map_map]
        apply List.map_congr_left
        intro p _
        show D.lst _ = pairL (f p)
        rw [sort2]; rfl))) ?_
    refine g_retF (EvN.g (en_sortE (E := E.map f) (EvN.l ((en_lcS (E.map f) pairL (fun _ => true) pN (fun p => [.dat (.lst (E.map pN)), .dat (.lst (im.map nI)), .dat (.lst ((E.map f).map pairL)), .any, .any, .dat (pairL p)])
      ev_var (js := [5]) (by simp) (by rw [List.length_map]; omega) (fun x A' hx => gg_name (Γ := [.dat (.lst (E.map pN)), .dat (.lst (im.map nI)), .dat (.lst ((E.map f).map pairL)), .any, .any, .any]) (by simp)) (fun x A' hx => et_yes) (fun x A' hx _ => ev_pair (ev_ixA (ds := [nI x.1, nI x.2]) (EvG.l ev_var) ev_int rfl) (ev_ixA (ds := [nI x.1, nI x.2]) (EvG.l ev_var) ev_int rfl))).is (by rw [filter_true]))))) hr
end
end HD
end
section
set_option Elab.async false
set_option linter.all false
set_option maxRecDepth 100000
set_option maxHeartbeats 4000000
/-! S10: the law's own helpers, on. -/
namespace HD
open PySem PySem.Spec L2 DL CM
section
variable {K : PySem.W.Frag}
theorem r__law_clique : ∀ vs H Q E, spF K P__law_clique vs H Q E → t__law_clique K { nx := fun _ H' => Q .non H', rt := Q } (L2.start ["n", "pairs", "u", "v"] vs) H :=
  rd_ofF fun c A ds d De hK hp hr hn => by
    obtain ⟨n, rfl, h1, rfl⟩ := hp
    subst hK
    show GoS c A [.dat (nI n), .any, .any, .any] (t__law_clique c.K) De
    refine q_set (EvN.g (en_ls ea_nil)) ?_
    refine g_seq (g_forR (n := n) ev_var (by omega) (fun i => [.dat (nI n), .dat (.lst ((clqS n i).map pN)), .any, .any]) (Wk.refl _) (by simp) (fun i A' De' hi hrt hnx hct hbk => ?_) ?_)
    · show GoS c A' [.dat (nI n), .dat (.lst ((clqS n i).map pN)), .dat (nI i), .any] _ De'
      have hl := clqS_len n i
      have hl2 : i * n ≤ 48 * 48 := Nat.mul_le_mul (by omega) h1
      have e1 : ((i : Int) + 1) = ((i + 1 : Nat) : Int) := by omega
      refine g_set (EvN.g ((en_cat ev_var (EvN.g (en_lcR2 (m := i + 1) (n := n) (fun j => pN (i, i + 1 + j)) (fun j => [.dat (nI n), .dat (.lst ((clqS n i).map pN)), .dat (nI i), .dat (nI (i + 1 + j))]) ((ev_addA ev_var ev_int).is (by rw [e1])) ev_var (by omega) (by omega) (js := [3]) (by simp)
        (fun x A' hx => gg_name (i := 3) (Γ := [.dat (nI n), .dat (.lst ((clqS n i).map pN)), .dat (nI i), .any]) (by simp)) (fun x A' hx => ev_pair ev_var ev_var))) (by rw [List.length_map, List.length_map, List.length_range]; omega)).is (es := (clqS n (i + 1)).map pN) ?_)) (by simp) (n_wk (.same (.same (.any (.any .nil)))) hnx)
      rw [clqS_step, List.map_append, List.map_map]; rfl
    · exact g_retF (EvN.g (en_ls (ea_cons ev_var (ea_cons ev_var ea_nil)))) hr
theorem r__law_rim : ∀ vs H Q E, spF K P__law_rim vs H Q E → t__law_rim K { nx := fun _ H' => Q .non H', rt := Q } (L2.start ["n", "hub", "pairs", "v"] vs) H :=
  rd_ofF fun c A ds d De hK hp hr hn => by
    obtain ⟨n, hub, rfl, h0, h1, rfl⟩ := hp
    subst hK
    show GoS c A [.dat (nI n), .dat (.bl hub), .any, .any] (t__law_rim c.K) De
    have e1 : ((n : Int) - 1) = ((n - 1 : Nat) : Int) := by omega
    have hs : ∀ {A : Hp} {Γ : List Sl}, Γ[0]? = some (.dat (nI n)) → EvG c A Γ (tOp (rI0 fun i j => .int (i - j)) (tVar 0) (tC (.int 1))) (nI (n - 1)) := fun h => (ev_sub (ev_var h) ev_int).is (by rw [e1]; rfl)
    let base : List Pr := ((List.range (n - 1)).map fun v => (v, v + 1)) ++ [(0, n - 1)]
    refine q_set (d := .lst (base.map pN)) (EvN.g ((en_cat (EvN.g (en_lcR (n := n - 1) (fun v => pN (v, v + 1)) (fun v => [.dat (nI n), .dat (.bl hub), .any, .dat (nI v)]) (hs rfl) (by omega) (js := [3]) (by simp) (fun x A' hx => gg_name (i := 3) (Γ := [.dat (nI n), .dat (.bl hub), .any, .any]) (by simp)) (fun x A' hx => ev_pair ev_var ((ev_addA ev_var ev_int).is rfl))))
      (EvN.g (en_ls (ea_cons (ev_pair (u := 0) ev_int (hs rfl)) ea_nil))) (by simp; omega)).is (by
        show _ = List.map pN (((List.range (n - 1)).map fun v => (v, v + 1)) ++ [(0, n - 1)])
        rw [List.map_append, List.map_map]; rfl))) ?_
    cases hub with
    | true =>
      refine g_seq (g_ifT ((et_truB (ev_var (d := .bl true)))) ?_)
      refine g_retF (EvN.g (en_ls (ea_cons ((ev_addA ev_var ev_int).is (e := nI (n + 1)) rfl) (ea_cons (EvN.g (en_sortE (E := base ++ (List.range n).map fun v => (v, n)) (EvN.l ((en_cat ev_var (EvN.g (en_lcR (n := n) (fun v => pN (v, n)) (fun v => [.dat (nI n), .dat (.bl true), .dat (.lst (base.map pN)), .dat (nI v)]) ev_var (by omega) (js := [3]) (by simp) (fun x A' hx => gg_name (i := 3) (Γ := [.dat (nI n), .dat (.bl true), .dat (.lst (base.map pN)), .any]) (by simp)) (fun x A' hx => ev_pair ev_var ev_var))) (by simp [base]; omega)).is (by
        rw [List.map_append (f := pN) (l₁ := base) (l₂ := (List.range n).map fun v => (v, n)), List.map_map]; rfl))))) ea_nil)))) hr
    | false =>
      refine q_no ((et_truB (ev_var (d := .bl false)))) ?_
      refine g_retF (EvG.is (EvN.g (en_ls (ea_cons ev_var (ea_cons (EvN.g (en_sortE (E := base) (EvG.l ev_var))) ea_nil)))) ?_) hr
      show _ = lG n (sortE (base ++ []))
      rw [List.append_nil]; rfl
theorem lots_eq (row : List Nat) : cutD ((subsF row).map lotD) (some 1) (some (-1)) = (lotsF row).map lotD := by
  unfold cutD lotsF
  generalize hL : subsF row = L
  have hpos : 1 ≤ L.length := by rw [← hL, subs_len]; exact Nat.one_le_two_pow
  rw [List.length_map]
  have e1 : HT.sIx L.length 0 (some 1) = 1 := by
    unfold HT.sIx; simp; omega
  have e2 : HT.sIx L.length L.length (some (-1)) = L.length - 1 := by
    unfold HT.sIx; simp; omega
  rw [e1, e2, ← List.map_drop, List.dropLast_eq_take, List.map_take, List.length_drop]
theorem r__law_lots : ∀ vs H Q E, spF K P__law_lots vs H Q E → t__law_lots K { nx := fun _ H' => Q .non H', rt := Q } (L2.start ["row", "lots", "one", "lot"] vs) H :=
  rd_ofF fun c A ds d De hK hp hr hn => by
    obtain ⟨row, rfl, h1, rfl⟩ := hp
    subst hK
    show GoS c A [.dat (.lst (row.map nI)), .any, .any, .any] (t__law_lots c.K) De
    refine q_set (EvN.g (en_ls (ea_cons (EvN.g (en_ls ea_nil)) ea_nil))) ?_
    refine q_for row nI (fun i => [.dat (.lst (row.map nI)), .dat (.lst ((subsF (row.take i)).map lotD)), .any, .any]) (fun i x => [.dat (.lst (row.map nI)), .dat (.lst ((subsF (row.take i)).map lotD)), .dat (nI x), .any])
      ev_var ?_ (js := [2]) (fun i x A' hx => gg_name (Γ := [.dat (.lst (row.map nI)), .dat (.lst ((subsF (row.take i)).map lotD)), .any, .any]) (by simp)) (fun i x A' De' hx hrt hnx hct hbk => ?_) ?_
    · exact Wk.refl _
    · have hlt := (List.getElem?_eq_some_iff.mp hx).1
      have hl : (row.take i).length ≤ 10 := by rw [List.length_take]; omega
      have hs := subs_small _ hl
      refine g_set (EvN.g ((en_cat ev_var (EvN.g (en_lcS (subsF (row.take i)) lotD (fun _ => true) (fun l => lotD (l ++ [x])) (fun l => [.dat (.lst (row.map nI)), .dat (.lst ((subsF (row.take i)).map lotD)), .dat (nI x), .dat (lotD l)]) ev_var (js := [3]) (by simp) (by omega)
        (fun l A' hl => gg_name (i := 3) (Γ := [.dat (.lst (row.map nI)), .dat (.lst ((subsF (row.take i)).map lotD)), .dat (nI x), .any]) (by simp)) (fun x A' hx => et_yes) (fun l A' hl' _ => (EvN.g (en_cat (ds := l.map nI) (es := [nI x]) ev_var (EvN.g (en_ls (ea_cons ev_var ea_nil))) (by
          have := subs_mem_len _ l hl'
          simp; omega))).is (by unfold lotD; rw [List.map_append]; rfl)))) (by rw [List.length_map, List.length_map]; have := List.length_filter_le (fun _ => true) (subsF (row.take i)); omega)).is (es := (subsF (row.take (i + 1))).map lotD) ?_)) (by simp) (n_wk (.same (.same (.any (.any .nil)))) hnx)
      rw [subs_step row i x hx, List.map_append, filter_true, List.map_map]; rfl
    · rw [List.take_length]
      exact g_retF (EvN.g ((en_slice (ds := (subsF row).map lotD) (EvG.l ev_var) (eo_some ev_int) (eo_some (ev_neg ev_int))).is (lots_eq row))) hr
theorem r__law_two_sides : ∀ vs H Q E, spF K P__law_two_sides vs H Q E → t__law_two_sides K { nx := fun _ H' => Q .non H', rt := Q } (L2.start ["hub", "one"] vs) H :=
  rd_ofF fun c A ds d De hK hp hr hn => by
    obtain ⟨rfl, rfl⟩ := hp
    subst hK
    show GoS c A [.any, .any] (t__law_two_sides c.K) De
    have i1 : ∀ {A : Hp} {Γ : List Sl} {n : Nat}, EvG c A Γ (tC (.int (n : Int))) (nI n) := ev_int
    have pr : ∀ {A : Hp} {Γ : List Sl} (u v : Nat), EvG c A Γ (tTup (tCons (tC (.int (u : Int))) (tCons (tC (.int (v : Int))) tNil))) (pN (u, v)) := fun u v => ev_pair ev_int ev_int
    refine q_set (d := .lst ([(0, 1), (0, 2), (0, 3), (0, 4), (0, 5), (0, 6)].map pN)) (EvN.g (en_ls (ea_cons (pr 0 1) (ea_cons (pr 0 2) (ea_cons (pr 0 3) (ea_cons (pr 0 4) (ea_cons (pr 0 5) (ea_cons (pr 0 6) ea_nil)))))))) ?_
    refine q_set (d := .lst ([(1, 3), (1, 4), (1, 7), (2, 3), (2, 8)].map pN)) (EvN.g (en_ls (ea_cons (pr 1 3) (ea_cons (pr 1 4) (ea_cons (pr 1 7) (ea_cons (pr 2 3) (ea_cons (pr 2 8) ea_nil))))))) ?_
    exact g_retF (EvN.g (en_ls (ea_cons ev_int (ea_cons (EvN.g (en_cat (EvN.g (en_cat (ds := [(0, 1), (0, 2), (0, 3), (0, 4), (0, 5), (0, 6)].map pN) (es := [(1, 3), (1, 4), (1, 7), (2, 3), (2, 8)].map pN) ev_var ev_var (by decide))) (EvN.g (en_ls (ea_cons (pr 4 6) (ea_cons (pr 4 7) (ea_cons (pr 5 6) (ea_cons (pr 5 8) (ea_cons (pr 7 8) ea_nil))))))) (by decide))) ea_nil)))) hr
end
end HD
end
section
set_option Elab.async false
set_option linter.all false
set_option maxRecDepth 100000
set_option maxHeartbeats 4000000
/-! S11: the law's own joining and parting. -/
namespace HD
open PySem PySem.Spec L2 DL CM
theorem norm_minmax (x y : Nat) : pN (norm (x, y)) = .tup [.int (min (x : Int) (y : Int)), .int (max (x : Int) (y : Int))] := by
  unfold norm
  by_cases h : x < y
  · have e1 : min (x : Int) (y : Int) = (x : Int) := by omega
    have e2 : max (x : Int) (y : Int) = (y : Int) := by omega
    rw [e1, e2, if_pos h]; rfl
  · have e1 : min (x : Int) (y : Int) = (y : Int) := by omega
    have e2 : max (x : Int) (y : Int) = (x : Int) := by omega
    rw [e1, e2, if_neg h]; rfl
theorem notB_t {b : Bool} (h : (!b) = true) : b = false := by cases b <;> simp_all
theorem notB_f {b : Bool} (h : (!b) = false) : b = true := by cases b <;> simp_all
theorem pl_at {n1 n2 node u : Nat} (hu : u < n2) : atI ((List.range n2).map fun v => nI (place n1 node v)) (u : Int) = some (nI (place n1 node u)) := by
  refine atI_nat ?_
  rw [List.getElem?_map, List.getElem?_range hu]; rfl
theorem has2 {a b w : Nat} : ([a, b].contains w) = decide (a = w ∨ b = w) := by
  rw [List.contains_eq_mem]
  congr 1
  simp only [List.mem_cons, List.not_mem_nil, or_false, eq_iff_iff]
  omega
section
variable {K : PySem.W.Frag}
theorem r__law_joined : ∀ vs H Q E, spF K P__law_joined vs H Q E → t__law_joined K { nx := fun _ H' => Q .non H', rt := Q } (L2.start ["first", "x", "y", "second", "node", "moved", "n", "v", "places", "edge", "pairs", "u", "far", "pair"] vs) H :=
  rd_ofF fun c A ds d De hK hp hr hn => by
    obtain ⟨n1, E1, x, y, n2, E2, node, mv, rfl, ok1, ok2, hn1, hnode, rfl⟩ := hp
    subst hK
    show GoS c A [.dat (lG n1 E1), .dat (nI x), .dat (nI y), .dat (lG n2 E2), .dat (nI node), .dat (.lst (mv.map nI)), .any, .any, .any, .any, .any, .any, .any, .any] (t__law_joined c.K) De
    have ixn : ∀ {A : Hp} {Γ : List Sl} {i n : Nat} {E : List Pr}, Γ[i]? = some (.dat (lG n E)) → EvG c A Γ (tOp (rIxA c.K) (tVar i) (tC (.int 0))) (nI n) := fun {A Γ i n E} h => ev_ixA (ds := [nI n, .lst (E.map pN)]) (EvG.l (ev_var h)) ev_int rfl
    have ixe : ∀ {A : Hp} {Γ : List Sl} {i n : Nat} {E : List Pr}, Γ[i]? = some (.dat (lG n E)) → EvG c A Γ (tOp (rIxA c.K) (tVar i) (tC (.int 1))) (.lst (E.map pN)) := fun {A Γ i n E} h => ev_ixA (ds := [nI n, .lst (E.map pN)]) (EvG.l (ev_var h)) ev_int rfl
    refine q_set (ixn rfl) ?_
    have h48 := ok2.le
    refine q_set (d := .lst ((List.range n2).map fun v => nI (place n1 node v))) (EvN.g (en_lcR (n := n2) (fun v => nI (place n1 node v)) (fun v => [.dat (lG n1 E1), .dat (nI x), .dat (nI y), .dat (lG n2 E2), .dat (nI node), .dat (.lst (mv.map nI)), .dat (nI n1), .dat (nI v), .any, .any, .any, .any, .any, .any]) (ixn rfl) (by omega) (js := [7]) (by simp)
      (fun v A' hx => gg_name (i := 7) (Γ := [.dat (lG n1 E1), .dat (nI x), .dat (nI y), .dat (lG n2 E2), .dat (nI node), .dat (.lst (mv.map nI)), .dat (nI n1), .any, .any, .any, .any, .any, .any, .any]) (by simp)) (fun v A' hx => ?_))) ?_
    · refine (ev_sub (ev_addA ev_var ev_var) (ev_intB (ev_gt ev_var ev_var))).is ?_
      show D.int ((n1 : Int) + (v : Int) - (if decide ((node : Int) < (v : Int)) then 1 else 0)) = nI (place n1 node v)
      unfold place nI
      congr 1
      by_cases h : node < v
      · have h' : (node : Int) < (v : Int) := by omega
        simp [h, h']; omega
      · have h' : ¬ (node : Int) < (v : Int) := by omega
        simp [h, h']
    refine q_set (d := pN (norm (x, y))) ((ev_tp (ea_cons (ev_min2 ev_var ev_var) (ea_cons (ev_max2 ev_var ev_var) ea_nil))).is (norm_minmax x y).symm) ?_
    refine q_setN (ds := (less E1 (norm (x, y))).map pN) (en_lcS E1 pN (fun p => decide (p ≠ norm (x, y))) pN (fun p => [.dat (lG n1 E1), .dat (nI x), .dat (nI y), .dat (lG n2 E2), .dat (nI node), .dat (.lst (mv.map nI)), .dat (nI n1), .any, .dat (.lst ((List.range n2).map fun v => nI (place n1 node v))), .dat (pN (norm (x, y))), .any, .any, .any, .dat (pN p)]) (ixe rfl) (js := [13]) (by simp) (by have := ok1.few; omega)
      (fun p A' hx => gg_name (i := 13) (Γ := [.dat (lG n1 E1), .dat (nI x), .dat (nI y), .dat (lG n2 E2), .dat (nI node), .dat (.lst (mv.map nI)), .dat (nI n1), .any, .dat (.lst ((List.range n2).map fun v => nI (place n1 node v))), .dat (pN (norm (x, y))), .any, .any, .any, .any]) (by simp)) (fun p A' hx => et_test (pN_ne ev_var ev_var)) (fun p A' hx _ => ev_var)) ?_
    let f : Pr → Pr := fun p => if p.1 ≠ node ∧ p.2 ≠ node then (place n1 node p.1, place n1 node p.2) else if mv.contains (p.1 + p.2 - node) then (y, place n1 node (p.1 + p.2 - node)) else (x, place n1 node (p.1 + p.2 - node))
    have hl1 : (less E1 (norm (x, y))).length ≤ 2000 := by
      have := List.length_filter_le (fun p => decide (p ≠ norm (x, y))) E1
      have := ok1.few
      unfold less; omega
    let S : List D → List Sl := fun o => [.dat (lG n1 E1), .dat (nI x), .dat (nI y), .dat (lG n2 E2), .dat (nI node), .dat (.lst (mv.map nI)), .dat (nI n1), .any, .dat (.lst ((List.range n2).map fun v => nI (place n1 node v))), .dat (pN (norm (x, y))), .own o, .any, .any, .any]
    let T : List D → Pr → List Sl := fun o p => [.dat (lG n1 E1), .dat (nI x), .dat (nI y), .dat (lG n2 E2), .dat (nI node), .dat (.lst (mv.map nI)), .dat (nI n1), .dat (nI p.2), .dat (.lst ((List.range n2).map fun v => nI (place n1 node v))), .dat (pN (norm (x, y))), .own o, .dat (nI p.1), .any, .any]
    refine q_for E2 pN (fun i => S ((less E1 (norm (x, y)) ++ (E2.take i).map f).map pN)) (fun i p => T ((less E1 (norm (x, y)) ++ (E2.take i).map f).map pN) p)
      (ixe (n := n2) (E := E2) rfl) ?_ (js := [11, 7]) (fun i p A' hx => ga_pair (Γ := S ((less E1 (norm (x, y)) ++ (E2.take i).map f).map pN)) p (show 11 < 14 by decide) (show 7 < 14 by decide)) (fun i p A' De' hx hrt hnx hct hbk => ?_) ?_
    · rw [List.take_zero, List.map_nil, List.append_nil]
      exact .same (.same (.same (.same (.same (.same (.same (.any (.same (.same (.same (.any (.any (.any .nil)))))))))))))
    · have hm := List.mem_of_getElem? hx
      obtain ⟨a1, a2⟩ := ok2.lt p hm
      have a0 : p.1 < n2 := by omega
      generalize hO : (less E1 (norm (x, y)) ++ (E2.take i).map f).map pN = O at *
      have hOl : O.length < 100000 := by
        rw [← hO, List.length_map, List.length_append, List.length_map, List.length_take]
        have := ok2.few
        omega
      refine q_set (ev_sub (ev_addA (i := (p.1 : Int)) (j := (p.2 : Int)) ev_var ev_var) (ev_var (d := nI node))) ?_ (show 12 < 14 by decide)
      let U : D → List Sl := fun w => [.dat (lG n1 E1), .dat (nI x), .dat (nI y), .dat (lG n2 E2), .dat (nI node), .dat (.lst (mv.map nI)), .dat (nI n1), .dat (nI p.2), .dat (.lst ((List.range n2).map fun v => nI (place n1 node v))), .dat (pN (norm (x, y))), .own O, .dat (nI p.1), .dat w, .any]
      have go : ∀ {w : D} {te : TE}, EvG c A' (U w) te (pN (f p)) → GoS c A' (U w) (tDrop (tBM c.K "list" rAppend (tVar 10) (tCons te tNil))) De' := fun {w te} h => by
        refine g_app (i := 10) (ds := O) rfl h hOl (n_wk ?_ hnx)
        have eO : (less E1 (norm (x, y)) ++ (E2.take (i + 1)).map f).map pN = O ++ [pN (f p)] := by
          rw [List.take_add_one, hx, List.map_append (f := f), ← List.append_assoc, List.map_append (f := pN), hO]; rfl
        rw [eO]
        exact .same (.same (.same (.same (.same (.same (.same (.any (.same (.same (.same (.any (.any (.any .nil)))))))))))))
      refine g_if (et_test (ev_niTN (x := node) (xs := [p.1, p.2]) ev_var (ev_tp (ea_cons ev_var (ea_cons ev_var ea_nil))))) (fun e => ?_) fun e => ?_
      · have e' : p.1 ≠ node ∧ p.2 ≠ node := by
          rw [has2] at e
          have := of_decide_eq_false (notB_t e)
          omega
        refine go (w := .int ((p.1 : Int) + p.2 - node)) ((ev_pair (ev_ixA (EvG.l ev_var) ev_var (pl_at a0)) (ev_ixA (EvG.l ev_var) ev_var (pl_at a2))).is ?_)
        show _ = pN (if _ then _ else _)
        rw [if_pos e']
      · have e0 : p.1 = node ∨ p.2 = node := by
          rw [has2] at e
          exact of_decide_eq_true (notB_f e)
        have e' : ¬ (p.1 ≠ node ∧ p.2 ≠ node) := by omega
        have hfar : ((p.1 : Int) + p.2 - node) = ((p.1 + p.2 - node : Nat) : Int) := by omega
        have hw : p.1 + p.2 - node < n2 := by omega
        rw [hfar]
        show GoS c A' (U (nI (p.1 + p.2 - node))) _ De'
        refine g_if (et_test (ev_inLN (x := p.1 + p.2 - node) (xs := mv) ev_var (EvG.l ev_var))) (fun q => ?_) fun q => ?_
        · refine go (w := nI (p.1 + p.2 - node)) ((ev_pair ev_var (ev_ixA (EvG.l ev_var) ev_var (pl_at hw))).is ?_)
          show _ = pN (if _ then _ else if _ then _ else _)
          rw [if_neg e', if_pos q]
        · refine go (w := nI (p.1 + p.2 - node)) ((ev_pair ev_var (ev_ixA (EvG.l ev_var) ev_var (pl_at hw))).is ?_)
          show _ = pN (if _ then _ else if _ then _ else _)
          rw [if_neg e', if_neg (by rw [q]; simp)]
    · rw [List.take_length]
      refine g_retF (EvG.is (EvN.g (en_ls (ea_cons (ev_sub (ev_addA ev_var (ixn (n := n2) (E := E2) rfl)) ev_int) (ea_cons (EvN.g (en_sortE (E := less E1 (norm (x, y)) ++ E2.map f) ev_own)) ea_nil)))) ?_) hr
      show D.lst [.int ((n1 : Int) + n2 - 1), _] = D.lst [nI (n1 + n2 - 1), _]
      have : ((n1 : Int) + n2 - 1) = ((n1 + n2 - 1 : Nat) : Int) := by omega
      rw [this]; rfl
theorem r__law_parted : ∀ vs H Q E, spF K P__law_parted vs H Q E → t__law_parted K { nx := fun _ H' => Q .non H', rt := Q } (L2.start ["second", "node", "moved", "n", "pairs", "u", "v", "far"] vs) H :=
  rd_ofF fun c A ds d De hK hp hr hn => by
    obtain ⟨n2, E2, node, mv, rfl, ok2, hnode, rfl⟩ := hp
    subst hK
    show GoS c A [.dat (lG n2 E2), .dat (nI node), .dat (.lst (mv.map nI)), .any, .any, .any, .any, .any] (t__law_parted c.K) De
    have ixn : ∀ {A : Hp} {Γ : List Sl} {i n : Nat} {E : List Pr}, Γ[i]? = some (.dat (lG n E)) → EvG c A Γ (tOp (rIxA c.K) (tVar i) (tC (.int 0))) (nI n) := fun {A Γ i n E} h => ev_ixA (ds := [nI n, .lst (E.map pN)]) (EvG.l (ev_var h)) ev_int rfl
    have ixe : ∀ {A : Hp} {Γ : List Sl} {i n : Nat} {E : List Pr}, Γ[i]? = some (.dat (lG n E)) → EvG c A Γ (tOp (rIxA c.K) (tVar i) (tC (.int 1))) (.lst (E.map pN)) := fun {A Γ i n E} h => ev_ixA (ds := [nI n, .lst (E.map pN)]) (EvG.l (ev_var h)) ev_int rfl
    refine q_set (ixn rfl) ?_
    refine q_setN (en_ls ea_nil) ?_
    let f : Pr → Pr := fun p => if (p.1 = node ∨ p.2 = node) ∧ mv.contains (p.1 + p.2 - node) = true then (p.1 + p.2 - node, n2) else p
    let S : List D → List Sl := fun o => [.dat (lG n2 E2), .dat (nI node), .dat (.lst (mv.map nI)), .dat (nI n2), .own o, .any, .any, .any]
    let T : List D → Pr → List Sl := fun o p => [.dat (lG n2 E2), .dat (nI node), .dat (.lst (mv.map nI)), .dat (nI n2), .own o, .dat (nI p.1), .dat (nI p.2), .any]
    refine q_for E2 pN (fun i => S (((E2.take i).map f).map pN)) (fun i p => T (((E2.take i).map f).map pN) p)
      (ixe (n := n2) (E := E2) rfl) (Wk.refl _) (js := [5, 6]) (fun i p A' hx => ga_pair (Γ := S (((E2.take i).map f).map pN)) p (show 5 < 8 by decide) (show 6 < 8 by decide)) (fun i p A' De' hx hrt hnx hct hbk => ?_) ?_
    · have hm := List.mem_of_getElem? hx
      obtain ⟨a1, a2⟩ := ok2.lt p hm
      generalize hO : ((E2.take i).map f).map pN = O at *
      have hOl : O.length < 100000 := by
        rw [← hO, List.length_map, List.length_map, List.length_take]
        have := ok2.few
        omega
      refine q_set (ev_sub (ev_addA (i := (p.1 : Int)) (j := (p.2 : Int)) ev_var ev_var) (ev_var (d := nI node))) ?_ (show 7 < 8 by decide)
      let U : D → List Sl := fun w => [.dat (lG n2 E2), .dat (nI node), .dat (.lst (mv.map nI)), .dat (nI n2), .own O, .dat (nI p.1), .dat (nI p.2), .dat w]
      have go : ∀ {w : D} {te : TE}, EvG c A' (U w) te (pN (f p)) → GoS c A' (U w) (tDrop (tBM c.K "list" rAppend (tVar 4) (tCons te tNil))) De' := fun {w te} h => by
        refine g_app (i := 4) (ds := O) rfl h hOl (n_wk ?_ hnx)
        have eO : ((E2.take (i + 1)).map f).map pN = O ++ [pN (f p)] := by
          rw [List.take_add_one, hx, List.map_append, List.map_append, hO]; rfl
        rw [eO]
        exact .same (.same (.same (.same (.same (.any (.any (.any .nil)))))))
      by_cases e0 : p.1 = node ∨ p.2 = node
      · have hfar : ((p.1 : Int) + p.2 - node) = ((p.1 + p.2 - node : Nat) : Int) := by omega
        rw [hfar]
        show GoS c A' (U (nI (p.1 + p.2 - node))) _ De'
        refine g_if (et_andT ((et_test (ev_inTN (x := node) (xs := [p.1, p.2]) ev_var (ev_tp (ea_cons ev_var (ea_cons ev_var ea_nil))))).is (by rw [has2]; exact decide_eq_true e0)) (et_test (ev_inLN (x := p.1 + p.2 - node) (xs := mv) ev_var (EvG.l ev_var)))) (fun q => ?_) fun q => ?_
        · refine go (w := nI (p.1 + p.2 - node)) ((ev_pair ev_var ev_var).is ?_)
          show _ = pN (if _ then _ else _)
          rw [if_pos ⟨e0, q⟩]
        · refine go (w := nI (p.1 + p.2 - node)) ((ev_pair ev_var ev_var).is ?_)
          show _ = pN (if _ then _ else _)
          rw [if_neg (fun z => by rw [q] at z; cases z.2)]
      · refine g_ifF (et_andF ((et_test (ev_inTN (x := node) (xs := [p.1, p.2]) ev_var (ev_tp (ea_cons ev_var (ea_cons ev_var ea_nil))))).is (by rw [has2]; exact decide_eq_false e0))) ?_
        refine go (w := .int ((p.1 : Int) + p.2 - node)) ((ev_pair ev_var ev_var).is ?_)
        show _ = pN (if _ then _ else _)
        rw [if_neg (fun z => e0 z.1)]
    · rw [List.take_length]
      exact g_retF (EvN.g (en_ls (ea_cons ((ev_addA ev_var ev_int).is (e := nI (n2 + 1)) rfl) (ea_cons (EvN.g (en_sortE (E := E2.map f) ev_own)) ea_nil)))) hr
end
end HD
end
section
set_option Elab.async false
set_option linter.all false
set_option maxRecDepth 100000
set_option maxHeartbeats 4000000
/-! S12a: plain data compared with itself. -/
namespace HD
open PySem PySem.Spec L2 DL CM
structure Pl (h : Nat) (d : D) : Prop where
  dt : d.dt = true
  lay : d.p.canLay0 = true
  dep : d.p.depth ≤ h
  rf : PyData.eqv d.p d.p = true
structure PlA (h : Nat) (ds : List D) : Prop where
  dt : D.dtA ds = true
  lay : PyData.canLayAll0 (D.pA ds) = true
  dep : PyData.depthAll (D.pA ds) ≤ h
  rf : PyData.eqvAll (D.pA ds) (D.pA ds) = true
theorem PlA.nil {h : Nat} : PlA h [] := ⟨rfl, rfl, by simp [D.pA, PyData.depthAll], rfl⟩
theorem PlA.cons {h : Nat} {d : D} {ds : List D} (a : Pl h d) (b : PlA h ds) : PlA h (d :: ds) :=
  ⟨by show (d.dt && D.dtA ds) = true; rw [a.dt, b.dt]; rfl, by show (d.p.canLay0 && PyData.canLayAll0 (D.pA ds)) = true; rw [a.lay, b.lay]; rfl,
   by
    have h1 := a.dep; have h2 := b.dep
    show PyData.depthAll (d.p :: D.pA ds) ≤ h
    simp only [PyData.depthAll]; omega,
   by show (PyData.eqv d.p d.p && PyData.eqvAll (D.pA ds) (D.pA ds)) = true; rw [a.rf, b.rf]; rfl⟩
theorem PlA.map {α : Type} {h : Nat} {f : α → D} (q : ∀ x, Pl h (f x)) : ∀ xs : List α, PlA h (xs.map f)
  | [] => .nil
  | x :: xs => .cons (q x) (PlA.map q xs)
theorem Pl.lst {h : Nat} {ds : List D} (a : PlA h ds) : Pl (h + 1) (.lst ds) :=
  ⟨a.dt, a.lay, by
    have h1 := a.dep
    show PyData.depth (.list (D.pA ds)) ≤ h + 1
    simp only [PyData.depth]; omega, a.rf⟩
theorem Pl.tup {h : Nat} {ds : List D} (a : PlA h ds) : Pl (h + 1) (.tup ds) :=
  ⟨a.dt, a.lay, by
    have h1 := a.dep
    show PyData.depth (.tuple (D.pA ds)) ≤ h + 1
    simp only [PyData.depth]; omega, a.rf⟩
theorem Pl.nI (h n : Nat) : Pl (h + 1) (nI n) := ⟨rfl, rfl, by
  show PyData.depth (.int (n : Int)) ≤ h + 1
  simp only [PyData.depth]; omega, by show PyData.eqv (.int (n : Int)) (.int (n : Int)) = true; rw [eqv_int]; exact decide_eq_true rfl⟩
theorem Pl.up {h m : Nat} {d : D} (q : Pl h d) (e : h ≤ m) : Pl m d := ⟨q.dt, q.lay, Nat.le_trans q.dep e, q.rf⟩
theorem Pl.sh {h : Nat} {d : D} (q : Pl h d) (e : h ≤ 64) : SeqAt.shaped d.p = true := by
  show (d.p.canLay0 && decide (d.p.depth ≤ 64)) = true
  rw [q.lay, decide_eq_true (Nat.le_trans q.dep e)]; rfl
theorem Pl.pN (p : Pr) : Pl 2 (pN p) := .tup (.cons (.nI 0 _) (.cons (.nI 0 _) .nil))
theorem Pl.ns (r : List Nat) : Pl 2 (.lst (r.map HD.nI)) := .lst (PlA.map (fun x => .nI 0 x) r)
theorem Pl.nt (r : List Nat) : Pl 2 (.tup (r.map HD.nI)) := .tup (PlA.map (fun x => .nI 0 x) r)
theorem Pl.es (E : List Pr) : Pl 3 (.lst (E.map HD.pN)) := .lst (PlA.map (fun x => .pN x) E)
theorem Pl.lG (n : Nat) (E : List Pr) : Pl 4 (lG n E) := .lst (.cons (.nI 2 _) (.cons (.es E) .nil))
theorem dtA_nI (r : List Nat) : D.dtA (r.map nI) = true := (Pl.ns r).dt
theorem ev_neS {c : Ct} {A : Hp} {Γ : List Sl} {ta tb : TE} {d : D} {h : Nat} (q : Pl h d) (e : h ≤ 64) (h1 : EvG c A Γ ta d) (h2 : EvG c A Γ tb d) : EvG c A Γ (tOp (rNeD c.K) ta tb) (.bl false) :=
  (ev_neD h1 h2 q.dt q.dt (q.sh e) (q.sh e)).is (by rw [q.rf]; rfl)
theorem ev_eqS {c : Ct} {A : Hp} {Γ : List Sl} {ta tb : TE} {d : D} {h : Nat} (q : Pl h d) (e : h ≤ 64) (h1 : EvG c A Γ ta d) (h2 : EvG c A Γ tb d) : EvG c A Γ (tOp (rEqD c.K) ta tb) (.bl true) :=
  (ev_eqD h1 h2 q.dt q.dt (q.sh e) (q.sh e)).is (by rw [q.rf])
/-- row == [] -/
theorem ev_eqNil {c : Ct} {A : Hp} {Γ : List Sl} {ta : TE} {r : List Nat} (h1 : EvG c A Γ ta (.lst (r.map nI))) : EvG c A Γ (tOp (rEqD c.K) ta (tLst tNil)) (.bl r.isEmpty) :=
  (ev_eqD h1 (EvN.g (en_ls ea_nil)) (Pl.ns r).dt rfl ((Pl.ns r).sh (by decide)) rfl).is (by congr 1; cases r <;> rfl)
theorem ev_neNil {c : Ct} {A : Hp} {Γ : List Sl} {ta : TE} {r : List Nat} (h1 : EvG c A Γ ta (.lst (r.map nI))) : EvG c A Γ (tOp (rNeD c.K) ta (tLst tNil)) (.bl (!r.isEmpty)) :=
  (ev_neD h1 (EvN.g (en_ls ea_nil)) (Pl.ns r).dt rfl ((Pl.ns r).sh (by decide)) rfl).is (by congr 1; cases r <;> rfl)
end HD
end
section
set_option Elab.async false
set_option linter.all false
set_option maxRecDepth 100000
set_option maxHeartbeats 4000000
/-! S12: the law's own first colouring. -/
namespace HD
open PySem PySem.Spec L2 DL CM
def rowD : Option (List Nat) → D
  | none => .non
  | some r => .lst (r.map nI)
def P__law_colouring (ds : List D) (d : D) : Prop := ∃ n E k, ds = [nI n, .lst (E.map pN), nI k] ∧ GOk n E ∧ 1 ≤ k ∧ k ≤ 6 ∧ d = rowD (firstCol n E k)
theorem mx_or (row : List Nat) : (row = [] ∧ mx row = 0) ∨ ∃ y ∈ row, mx row = y + 1 := by
  induction row with
  | nil => exact .inl ⟨rfl, rfl⟩
  | cons c r ih =>
    refine .inr ?_
    simp only [mx]
    rcases ih with ⟨rfl, h⟩ | ⟨y, hy, h⟩
    · exact ⟨c, by simp, by rw [h]; omega⟩
    · by_cases q : y ≤ c
      · exact ⟨c, by simp, by omega⟩
      · exact ⟨y, by simp [hy], by omega⟩
theorem free_head {T : List Nat} {s e c : Nat} (h1 : s ≤ c) (h2 : ∀ x, s ≤ x → x < c → T.contains x = true) (h3 : c < e) (h4 : T.contains c = false) : (freeOf T s e).head? = some c := by
  unfold freeOf
  obtain ⟨m, rfl⟩ : ∃ m, e = c + (m + 1) := ⟨e - c - 1, by omega⟩
  rw [List.range_add, List.filter_append]
  have e2 : (List.range c).filter (fun c => decide (s ≤ c) && !T.contains c) = [] := by
    rw [List.filter_eq_nil_iff]
    intro x hx hq
    rw [List.mem_range] at hx
    rw [Bool.and_eq_true] at hq
    have := h2 x (of_decide_eq_true hq.1) hx
    rw [this] at hq; exact absurd hq.2 (by simp)
  rw [e2, List.nil_append, List.range_succ_eq_map, List.map_cons, List.filter_cons, if_pos (by rw [Bool.and_eq_true, Nat.add_zero]; exact ⟨decide_eq_true h1, by rw [h4]; rfl⟩)]
  rfl
theorem free_none {T : List Nat} {s e c : Nat} (h2 : ∀ x, s ≤ x → x < c → T.contains x = true) (h3 : e ≤ c) : (freeOf T s e).head? = none := by
  have : freeOf T s e = [] := by
    unfold freeOf
    rw [List.filter_eq_nil_iff]
    intro x hx hq
    rw [List.mem_range] at hx
    rw [Bool.and_eq_true] at hq
    have := h2 x (of_decide_eq_true hq.1) (by omega)
    rw [this] at hq; exact absurd hq.2 (by simp)
  rw [this]; rfl
section
variable {K : PySem.W.Frag}
theorem r__law_colouring : ∀ vs H Q E, spF K P__law_colouring vs H Q E → t__law_colouring K { nx := fun _ H' => Q .non H', rt := Q } (L2.start ["n", "pairs", "k", "v", "lower", "u", "row", "colour", "taken", "most"] vs) H :=
  rd_ofF fun c A ds d De hK hp hr hn => by
    obtain ⟨n, E, k, rfl, ok, k1, k6, rfl⟩ := hp
    subst hK
    have h48 := ok.le
    show GoS c A [.dat (nI n), .dat (.lst (E.map pN)), .dat (nI k), .any, .any, .any, .any, .any, .any, .any] (t__law_colouring c.K) De
    refine g_seq (g_set2 (n := n) ev_var (by omega) (by simp) ?_)
    refine q_for E pN (fun i => [.dat (nI n), .dat (.lst (E.map pN)), .dat (nI k), .any, .own2 ((lower n (E.take i)).map (·.map nI)), .any, .any, .any, .any, .any]) (fun i p => [.dat (nI n), .dat (.lst (E.map pN)), .dat (nI k), .dat (nI p.2), .own2 ((lower n (E.take i)).map (·.map nI)), .dat (nI p.1), .any, .any, .any, .any])
      ev_var ?_ (js := [5, 3]) (fun i x A' hx => ga_pair (Γ := [.dat (nI n), .dat (.lst (E.map pN)), .dat (nI k), .any, .own2 ((lower n (E.take i)).map (·.map nI)), .any, .any, .any, .any, .any]) x) (fun i p A' De' hx hrt hnx hct hbk => ?_) ?_
    · rw [List.take_zero, lower_nil, List.map_replicate]
      exact Wk.refl _
    · have hm := List.mem_of_getElem? hx
      obtain ⟨a1, a2⟩ := ok.lt p hm
      have hl : (lowOf p.2 (E.take i)).length ≤ 2000 := by
        have h1 := lowOf_len p.2 (E.take i)
        have h2 := ok.few
        rw [List.length_take] at h1; omega
      have e1 : ((lower n (E.take i)).map (·.map nI))[p.2]? = some ((lowOf p.2 (E.take i)).map nI) := by rw [List.getElem?_map, lower_at a2]; rfl
      refine g_app2 (u := p.2) rfl ev_var e1 ev_var (by rw [List.length_map]; omega) (n_wk ?_ hnx)
      have e3 : (lower n (E.take (i + 1))).map (·.map nI) = ((lower n (E.take i)).map (·.map nI)).set p.2 ((lowOf p.2 (E.take i)).map nI ++ [nI p.1]) := by
        rw [List.take_add_one, hx]
        show (lower n (E.take i ++ [p])).map _ = _
        rw [lower_step (u := p.1) (v := p.2) a2, List.map_set, List.map_append]
        rfl
      rw [e3]
      exact .same (.same (.same (.any (.same (.any (.any (.any (.any (.any .nil)))))))))
    · rw [List.take_length]
      refine g_freeze2 (i := 4) rfl ?_
      have eL : (((lower n E).map (·.map nI)).map D.lst) = (lower n E).map fun r => D.lst (r.map nI) := by rw [List.map_map]; rfl
      rw [eL]
      generalize hL : D.lst ((lower n E).map fun r => .lst (r.map nI)) = dL
      refine q_setN (en_ls ea_nil) ?_
      refine q_set ev_int ?_
      obtain ⟨m0, hrun0⟩ := run_dfs (lower n E) k n
      have hrun : Run (lower n E) k n [] 0 1 (firstCol n E k) (cnt n E k) m0 := hrun0
      clear hrun0
      generalize firstCol n E k = fr at *
      generalize cnt n E k = fc at *
      let W : VS → List Sl := fun z => [.dat (nI n), .dat (.lst (E.map pN)), .dat (nI k), .any, .dat dL, .any, .own (z.row.map nI), .dat (nI z.s), .any, .any]
      have hlenE : ∀ {A : Hp} {Γ : List Sl} {row : List Nat}, Γ[6]? = some (.own (row.map nI)) → EvG c A Γ (tCB (rLenA c.K) (tCons (tVar 6) tNil)) (nI row.length) := fun {A Γ row} h => (ev_len (ev_own h)).is (by rw [List.length_map]; rfl)
      refine g_seq (g_while W (fun z => Run (lower n E) k n z.row z.s z.c fr fc z.m ∧ z.row.length ≤ n ∧ z.s ≤ 100 ∧ ∀ x ∈ z.row, x < k) (fun z => z.m) ⟨[], 0, 1, m0⟩ (.same (.same (.same (.any (.same (.any (.same (.same (.any (.any .nil)))))))))) ⟨hrun, Nat.zero_le _, Nat.zero_le _, fun x hx => by cases hx⟩ (fun z A' hz => ?_))
      obtain ⟨row, s, cn, m⟩ := z
      obtain ⟨hrun, hlen, hs, hrow⟩ := hz
      simp only at hrun hlen hs hrow
      refine ⟨_, et_test (ev_lt (i := (row.length : Int)) (j := (n : Int)) (hlenE rfl) ev_var), fun hlt De' hrt hnx hct hbk => ?_, fun hge => ?_⟩
      · have he : row.length < n := by have := of_decide_eq_true hlt; omega
        show GoS c A' [.dat (nI n), .dat (.lst (E.map pN)), .dat (nI k), .any, .dat dL, .any, .own (row.map nI), .dat (nI s), .any, .any] _ De'
        have hat : atI ((lower n E).map fun r => D.lst (r.map nI)) ((row.length : Nat) : Int) = some (.lst ((lowOf row.length E).map nI)) := atI_nat (by rw [List.getElem?_map, lower_at he]; rfl)
        have hlow : (lower n E).getD row.length [] = lowOf row.length E := by rw [List.getD_eq_getElem?_getD, lower_at he]; rfl
        have hll : (lowOf row.length E).length ≤ 2000 := by have := lowOf_len row.length E; have := ok.few; omega
        refine q_set (d := .lst ((takenOf (lower n E) row).map nI)) (EvN.g ((en_lcS (lowOf row.length E) nI (fun _ => true) (fun u => nI (row.getD u 0)) (fun u => [.dat (nI n), .dat (.lst (E.map pN)), .dat (nI k), .any, .dat dL, .dat (nI u), .own (row.map nI), .dat (nI s), .any, .any])
          (ev_ixA (ds := (lower n E).map fun r => .lst (r.map nI)) (EvG.l (EvG.is (ev_var (i := 4) (d := dL)) hL.symm)) (hlenE rfl) hat) (js := [5]) (by simp) (by omega) (fun x A' hx => gg_name (i := 5) (Γ := [.dat (nI n), .dat (.lst (E.map pN)), .dat (nI k), .any, .dat dL, .any, .own (row.map nI), .dat (nI s), .any, .any]) (by simp)) (fun x A' hx => et_yes) (fun x A' hx _ => ev_ixA (ds := row.map nI) ev_own ev_var (nn_at rfl (ok.lt _ (mem_lowOf.mp hx)).1))).is (by
            rw [filter_true]; unfold takenOf; rw [hlow, List.map_map]; rfl))) ?_
        have hT : free (lower n E) k row s = freeOf (takenOf (lower n E) row) s (topC k row) := rfl
        generalize takenOf (lower n E) row = T at *
        have hmn : min (k : Int) (((mx row : Int) - 1) + 2) = ((topC k row : Nat) : Int) := by unfold topC; omega
        refine q_set (d := nI (topC k row)) ((ev_min2 ev_var (ev_addA (ev_maxL (ns := (-1) :: row.map fun x : Nat => (x : Int)) (m := (mx row : Int) - 1) (EvN.l ((en_catO (i := 6) (ds := [.int (-1)]) (es := row.map nI) (EvN.g (en_ls (ea_cons (ev_neg ev_int) ea_nil))) rfl (by simp; omega)).is (by rw [List.map_cons, List.map_map]; rfl))) ?_ ?_) ev_int)).is (by rw [hmn]; rfl)) ?_
        · rcases mx_or row with ⟨rfl, h⟩ | ⟨y, hy, h⟩
          · rw [h]; exact List.mem_cons_self ..
          · refine List.mem_cons_of_mem _ (List.mem_map.mpr ⟨y, hy, by omega⟩)
        · intro y hy
          rcases List.mem_cons.mp hy with rfl | hy
          · omega
          · obtain ⟨x, hx, rfl⟩ := List.mem_map.mp hy
            have := mx_lt hx; omega
        have htop : topC k row ≤ 6 := by unfold topC; omega
        let V : Nat → List Sl := fun q => [.dat (nI n), .dat (.lst (E.map pN)), .dat (nI k), .any, .dat dL, .any, .own (row.map nI), .dat (nI q), .dat (.lst (T.map nI)), .dat (nI (topC k row))]
        refine g_seq (g_while V (fun q => s ≤ q ∧ ∀ x, s ≤ x → x < q → T.contains x = true) (fun q => topC k row - q) s (Wk.refl _) ⟨Nat.le_refl _, fun x a b => by omega⟩ (fun q A2 hq => ?_))
        obtain ⟨hq1, hq2⟩ := hq
        refine ⟨_, et_and (et_test (ev_lt (i := (q : Int)) (j := (topC k row : Int)) ev_var ev_var)) fun _ => et_test (ev_inLN (x := q) (xs := T) ev_var (EvG.l ev_var)), fun hb De2 hrt2 hnx2 hct2 hbk2 => ?_, fun hb => ?_⟩
        · obtain ⟨b1, b2⟩ := Bool.and_eq_true_iff.mp hb
          have b1' := of_decide_eq_true b1
          refine g_set ((ev_addA ev_var ev_int).is (e := nI (q + 1)) rfl) (show 7 < 10 by decide) (hnx2 (q + 1) ⟨by omega, fun x a b => ?_⟩ (by show topC k row - (q + 1) < topC k row - q; omega))
          by_cases e : x = q
          · subst e; exact b2
          · exact hq2 x a (by omega)
        · show GoN c A' [.dat (nI n), .dat (.lst (E.map pN)), .dat (nI k), .any, .dat dL, .any, .own (row.map nI), .dat (nI q), .dat (.lst (T.map nI)), .dat (nI (topC k row))] _
          refine g_if (et_test (ev_lt (i := (q : Int)) (j := (topC k row : Int)) ev_var ev_var)) (fun e => ?_) fun e => ?_
          · have e' := of_decide_eq_true e
            have hc : T.contains q = false := by
              cases hc : T.contains q with
              | false => rfl
              | true => rw [e, hc] at hb; cases hb
            have hx : (free (lower n E) k row s).head? = some q := by rw [hT]; exact free_head hq1 hq2 (by omega) hc
            obtain ⟨m', hm, hrun'⟩ : ∃ m', m' < m ∧ Run (lower n E) k n (row ++ [q]) 0 (cn + 1) fr fc m' := by
              cases hrun with
              | full h => omega
              | push _ h1 h2 => rw [hx] at h1; cases h1; exact ⟨_, by omega, h2⟩
              | pop _ h1 _ _ => rw [hx] at h1; cases h1
              | stop _ h1 => rw [hx] at h1; cases h1
            have hqk : q < k := by unfold topC at e'; omega
            refine g_seq (g_app rfl ev_var (by rw [List.length_map]; omega) ?_)
            refine g_set ev_int (by simp) (n_wk ?_ (hnx ⟨row ++ [q], 0, cn + 1, m'⟩ ⟨hrun', by simp; omega, Nat.zero_le _, fun y hy => ?_⟩ hm))
            · show Wk _ [.dat (nI n), .dat (.lst (E.map pN)), .dat (nI k), .any, .dat dL, .any, .own ((row ++ [q]).map nI), .dat (nI 0), .any, .any]
              rw [List.map_append]
              exact .same (.same (.same (.same (.same (.same (.same (.same (.any (.any .nil)))))))))
            · rcases List.mem_append.mp hy with hy | hy
              · exact hrow y hy
              · simp at hy; omega
          · have e' := of_decide_eq_false e
            have hx : (free (lower n E) k row s).head? = none := by rw [hT]; exact free_none hq2 (by omega)
            have hemp : PyData.eqv (D.lst (row.map nI)).p (D.lst []).p = row.isEmpty := by cases row <;> rfl
            refine g_if (et_test ((ev_eqL (ds := row.map nI) (es := []) ev_own (EvN.l (en_ls ea_nil)) (dtA_nI row) rfl ((Pl.ns row).sh (by decide)) rfl).is (by rw [hemp]))) (fun e2 => ?_) fun e2 => ?_
            · have hne : row = [] := List.isEmpty_iff.mp e2
              subst hne
              have hres : fr = none := by
                cases hrun with
                | full h => omega
                | push _ h1 _ => rw [hx] at h1; cases h1
                | pop _ _ h1 _ => cases h1
                | stop _ _ => rfl
              refine g_retF (ev_non.is ?_) (by rw [hrt]; exact hr)
              rw [hres]; rfl
            · have hne : row ≠ [] := fun z => by rw [z] at e2; cases e2
              have hgl : row.getLast? = some (row.getLast hne) := List.getLast?_eq_getLast hne
              obtain ⟨m', hm, hrun'⟩ : ∃ m', m' < m ∧ Run (lower n E) k n row.dropLast (row.getLast hne + 1) cn fr fc m' := by
                cases hrun with
                | full h => omega
                | push _ h1 h2 => rw [hx] at h1; cases h1
                | pop _ _ h1 h2 => rw [hgl] at h1; cases h1; exact ⟨_, by omega, h2⟩
                | stop _ h1 => exact absurd rfl hne
              have hlast : (row.map nI)[(row.map nI).length - 1]? = some (nI (row.getLast hne)) := by
                rw [List.getElem?_map, List.length_map, ← List.getLast?_eq_getElem?, hgl]; rfl
              refine g_setX (x_addA (x_pop rfl hlast) ev_int) (by simp) (n_wk ?_ (hnx ⟨row.dropLast, row.getLast hne + 1, cn, m'⟩ ⟨hrun', by simp; omega, ?_, fun y hy => hrow y (List.dropLast_subset row hy)⟩ hm))
              · show Wk _ [.dat (nI n), .dat (.lst (E.map pN)), .dat (nI k), .any, .dat dL, .any, .own (row.dropLast.map nI), .dat (nI (row.getLast hne + 1)), .any, .any]
                rw [List.map_dropLast]
                exact .same (.same (.same (.same (.same (.same (.same (.same (.any (.any .nil)))))))))
              · have := hrow _ (List.getLast_mem hne); show row.getLast hne + 1 ≤ 100; omega
      · have he : row.length = n := by have := of_decide_eq_false hge; omega
        have hres : fr = some row := by
          cases hrun with
          | full _ => rfl
          | push h _ _ => omega
          | pop h _ _ _ => omega
          | stop h _ => simp at he; omega
        show GoS c A [.dat (nI n), .dat (.lst (E.map pN)), .dat (nI k), .any, .dat dL, .any, .own (row.map nI), .dat (nI s), .any, .any] (tRet (tVar 6)) De
        refine g_freeze (i := 6) rfl (g_retF (EvG.is (ev_var (i := 6) (d := .lst (row.map nI))) ?_) hr)
        rw [hres]; rfl
end
end HD
end
section
set_option Elab.async false
set_option linter.all false
set_option maxRecDepth 100000
set_option maxHeartbeats 4000000
/-! S13: one lot is right. -/
namespace HD
open PySem PySem.Spec L2 DL CM
def P__law_answered (ds : List D) (d : D) : Prop := ∃ r : Option (List Nat), ds = [colD r, rowD r] ∧ (∀ x, r = some x → x.length ≤ 1000) ∧ d = .bl true
/-- all that one lot asks for -/
structure LR (n1 : Nat) (A : List Pr) (n2 : Nat) (B : List Pr) (k x y node : Nat) (mv : List Nat) : Prop where
  fu : Fu n1 A x y n2 B node mv.reverse
  k1 : 1 ≤ k
  k6 : k ≤ 6
  edF : EdIn (n1 + n2 - 1) (fusL n1 A x y n2 B node mv.reverse)
  eqF : sortE ((fusL n1 A x y n2 B node mv.reverse).map norm) = sortE (joinL n1 A x y B node mv)
  edD : EdIn (n2 + 1) (divL n2 B node mv.reverse)
  eqD : sortE ((divL n2 B node mv.reverse).map norm) = sortE (partL n2 B node mv)
  cr : CrOk (n1 + n2 - 1) (sortE (joinL n1 A x y B node mv)) k
  cP : cnt (n2 + 1) (sortE (partL n2 B node mv)) k ≤ 5000
  non : firstCol (n1 + n2 - 1) (sortE (joinL n1 A x y B node mv)) k = none
  same : critB (n1 + n2 - 1) (sortE (joinL n1 A x y B node mv)) k = (firstCol (n2 + 1) (sortE (partL n2 B node mv)) k).isSome
  ne : sortE (joinL n1 A x y B node mv) ≠ []
def P__law_lot_right (ds : List D) (d : D) : Prop := ∃ n1 A n2 B k x y node mv, ∃ z : Int, ds = [lG n1 A, lG n2 B, nI k, .lst [nI x, nI y, nI node], lotD mv, .int z] ∧ LR n1 A n2 B k x y node mv ∧ d = .bl true
theorem Pl.bl (h : Nat) (b : Bool) : Pl (h + 1) (.bl b) := ⟨rfl, rfl, by
  show PyData.depth (.bool b) ≤ h + 1
  simp only [PyData.depth]; omega, by cases b <;> rfl⟩
theorem rowD_non (o : Option (List Nat)) : (rowD o).isNon = o.isNone := by cases o <;> rfl
theorem firstCol_len {n : Nat} {E : List Pr} {k : Nat} {r : List Nat} (h : firstCol n E k = some r) : r.length = n := by
  obtain ⟨m, hrun⟩ := run_dfs (lower n E) k n
  have key : ∀ {L k n row s c o cf m}, Run L k n row s c o cf m → ∀ r, o = some r → r.length = n := by
    intro L k n row s c o cf m hr
    induction hr with
    | full h => intro r e; cases e; exact h
    | push _ _ _ ih => exact ih
    | pop _ _ _ _ ih => exact ih
    | stop _ _ => intro r e; cases e
  exact key hrun r h
section
variable {K : PySem.W.Frag} (gf : GF K)
theorem r__law_answered : ∀ vs H Q E, spF K P__law_answered vs H Q E → t__law_answered K (spF K P__law_wholes) { nx := fun _ H' => Q .non H', rt := Q } (L2.start ["told", "row"] vs) H :=
  rd_ofF fun c A ds d De hK hp hr hn => by
    obtain ⟨r, rfl, h1, rfl⟩ := hp
    subst hK
    show GoS c A [.dat (colD r), .dat (rowD r)] (t__law_answered c.K _) De
    cases r with
    | none =>
      refine g_seq (g_ifT ((et_test (ev_isNA (ev_var (d := rowD none)))).is rfl) (g_retF ((ev_isNA (ev_var (d := colD none))).is rfl) hr))
    | some r =>
      have hl := h1 r rfl
      refine q_no ((et_test (ev_isNA (ev_var (d := rowD (some r))))).is rfl) ?_
      refine g_retF (ev_andV (x := true) (y := true) (ev_callF (ea_cons ev_var ea_nil) ⟨r, rfl, hl, rfl⟩) fun _ => ev_eqS (Pl.nt r) (by decide) ev_var (ev_tupleL (EvG.l (ev_var (i := 1) (d := .lst (r.map nI)))))) hr
include gf
theorem r__law_lot_right : ∀ vs H Q E, spF K P__law_lot_right vs H Q E → t__law_lot_right K (spF K P__law_joined) (spIF K (GC K) gNs P_Graph_init) (spF K (P_fused K)) (spF K (P_divided K)) (spF K P__law_parted) (spF K (P__law_form K)) (spF K P__law_colouring) (spF K P__law_answered) (spF K (P_first_colouring K)) (spF K (P_is_critical K)) (spF K (P_Graph_without_edge K)) { nx := fun _ H' => Q .non H', rt := Q } (L2.start ["first", "second", "k", "joint", "moved", "number", "x", "y", "node", "n", "pairs", "one", "two", "lot", "graph", "split", "apart", "row", "said", "u", "v", "less", "told", "pair"] vs) H :=
  rd_ofF fun c A0 ds d De hK hp hr hn => by
    obtain ⟨n1, A, n2, B, k, x, y, node, mv, z, rfl, lr, rfl⟩ := hp
    subst hK
    show GoS c A0 [.dat (lG n1 A), .dat (lG n2 B), .dat (nI k), .dat (.lst [nI x, nI y, nI node]), .dat (lotD mv), .dat (.int z), .any, .any, .any, .any, .any, .any, .any, .any, .any, .any, .any, .any, .any, .any, .any, .any, .any, .any] (t__law_lot_right c.K _ _ _ _ _ _ _ _ _ _ _) De
    have ixn : ∀ {A : Hp} {Γ : List Sl} {i n : Nat} {E : List Pr}, Γ[i]? = some (.dat (lG n E)) → EvG c A Γ (tOp (rIxA c.K) (tVar i) (tC (.int 0))) (nI n) := fun {A Γ i n E} h => ev_ixA (ds := [nI n, .lst (E.map pN)]) (EvG.l (ev_var h)) ev_int rfl
    have ixe : ∀ {A : Hp} {Γ : List Sl} {i n : Nat} {E : List Pr}, Γ[i]? = some (.dat (lG n E)) → EvG c A Γ (tOp (rIxA c.K) (tVar i) (tC (.int 1))) (.lst (E.map pN)) := fun {A Γ i n E} h => ev_ixA (ds := [nI n, .lst (E.map pN)]) (EvG.l (ev_var h)) ev_int rfl
    obtain ⟨fu, k1, k6, edF, eqF, edD, eqD, cr, cP, non, same, ne⟩ := lr
    have ok1 := fu.ok
    have ok2 := fu.mv.ok
    have okP : GOk (n2 + 1) (sortE (partL n2 B node mv)) := by rw [← eqD]; exact edD.ok (by have := fu.le; have := fu.hx; omega)
    have hn1 : 1 ≤ n1 := by have := fu.hx; omega
    refine q_asg (js := [6, 7, 8]) (ev_var (d := .lst [nI x, nI y, nI node])) (ga_lst (gs_cons (gg_name (i := 6) (by simp)) (gs_cons (gg_name (i := 7) (by simp)) (gs_cons (gg_name (i := 8) (by simp)) gs_nil))) rfl) ?_
    generalize hJ : sortE (joinL n1 A x y B node mv) = J at *
    generalize hP : sortE (partL n2 B node mv) = P at *
    have okJ := cr.ok
    refine q_asg (js := [9, 10]) (ev_callF (ea_cons ev_var (ea_cons ev_var (ea_cons ev_var (ea_cons ev_var (ea_cons ev_var (ea_cons ev_var ea_nil)))))) ⟨n1, A, x, y, n2, B, node, mv, rfl, ok1, ok2, hn1, fu.mv.lt, rfl⟩) (ga_lst (gs_cons (gg_name (i := 9) (by simp)) (gs_cons (gg_name (i := 10) (by simp)) gs_nil)) rfl) ?_
    rw [hJ]
    refine q_set (d := gR c.K n1 A) ((ev_makeF (ea_cons (ixn (n := n1) (E := A) rfl) (ea_cons (EvN.g (en_listL (EvG.l (ixe (n := n1) (E := A) rfl)))) ea_nil)) ⟨n1, A, rfl, ok1.le, ok1.ed, rfl⟩).is (by rw [ok1.sort]; rfl)) ?_
    refine q_set (d := gR c.K n2 B) ((ev_makeF (ea_cons (ixn (n := n2) (E := B) rfl) (ea_cons (EvN.g (en_listL (EvG.l (ixe (n := n2) (E := B) rfl)))) ea_nil)) ⟨n2, B, rfl, ok2.le, ok2.ed, rfl⟩).is (by rw [ok2.sort]; rfl)) ?_
    have hrev : ∀ {A : Hp} {Γ : List Sl}, Γ[4]? = some (.dat (lotD mv)) → EvG c A Γ (tRevL c.K (tVar 4)) (.lst (mv.reverse.map nI)) := fun h => EvN.g ((en_rev (ds := mv.map nI) (EvG.l (ev_var h))).is (by rw [List.map_reverse]))
    refine q_set (hrev rfl) ?_
    refine q_set (d := gR c.K (n1 + n2 - 1) J) ((ev_callF (ea_cons ev_var (ea_cons ev_var (ea_cons ev_var (ea_cons ev_var (ea_cons ev_var (ea_cons ev_var ea_nil)))))) ⟨n1, A, x, y, n2, B, node, mv.reverse, rfl, fu, edF, rfl⟩).is (by rw [eqF])) ?_
    refine q_set (d := gR c.K (n2 + 1) P) ((ev_callF (ea_cons ev_var (ea_cons ev_var (ea_cons ev_var ea_nil))) ⟨n2, B, node, mv.reverse, rfl, by have := fu.le; omega, fu.mv, edD, rfl⟩).is (by rw [eqD])) ?_
    refine q_set (d := lG (n2 + 1) P) ((ev_callF (ea_cons ev_var (ea_cons ev_var (ea_cons ev_var ea_nil))) ⟨n2, B, node, mv, rfl, ok2, fu.mv.lt, rfl⟩).is (by rw [hP])) ?_
    show GoS c A0 [.dat (lG n1 A), .dat (lG n2 B), .dat (nI k), .dat (.lst [nI x, nI y, nI node]), .dat (lotD mv), .dat (.int z), .dat (nI x), .dat (nI y), .dat (nI node), .dat (nI (n1 + n2 - 1)), .dat (.lst (J.map pN)), .dat (gR c.K n1 A), .dat (gR c.K n2 B), .dat (.lst (mv.reverse.map nI)), .dat (gR c.K (n1 + n2 - 1) J), .dat (gR c.K (n2 + 1) P), .dat (lG (n2 + 1) P), .any, .any, .any, .any, .any, .any, .any] _ De
    refine q_no (et_orF (et_test (ev_neS (Pl.ns mv.reverse) (by decide) ev_var (hrev rfl))) (et_orF (et_test (ev_neS (Pl.lG n1 A) (by decide) (ev_callF (ea_cons ev_var ea_nil) ⟨n1, A, rfl, ok1, rfl⟩) ev_var)) (et_test (ev_neS (Pl.lG n2 B) (by decide) (ev_callF (ea_cons ev_var ea_nil) ⟨n2, B, rfl, ok2, rfl⟩) ev_var)))) ?_
    refine q_no (et_orF (et_test (ev_neS (Pl.lG (n1 + n2 - 1) J) (by decide) (ev_callF (ea_cons ev_var ea_nil) ⟨n1 + n2 - 1, J, rfl, okJ, rfl⟩) (EvN.g (en_ls (ea_cons ev_var (ea_cons ev_var ea_nil)))))) (et_test (ev_neS (Pl.lG (n2 + 1) P) (by decide) (ev_callF (ea_cons ev_var ea_nil) ⟨n2 + 1, P, rfl, okP, rfl⟩) ev_var))) ?_
    refine q_set (d := rowD (firstCol (n2 + 1) P k)) (ev_callF (ea_cons (ixn (n := n2 + 1) (E := P) rfl) (ea_cons (ixe (n := n2 + 1) (E := P) rfl) (ea_cons ev_var ea_nil))) ⟨n2 + 1, P, k, rfl, okP, k1, k6, rfl⟩) ?_
    have hlenP : ∀ r, firstCol (n2 + 1) P k = some r → r.length ≤ 1000 := fun r h => by rw [firstCol_len h]; have := okP.le; omega
    refine q_no ((et_not (et_truB (ev_callF (d := .bl true) (ea_cons (ev_callF (d := colD (firstCol (n2 + 1) P k)) (ea_cons ev_var (ea_cons ev_var ea_nil)) ⟨n2 + 1, P, k, rfl, okP, k1, k6, cP, rfl⟩) (ea_cons ev_var ea_nil)) ⟨firstCol (n2 + 1) P k, rfl, hlenP, rfl⟩))).is rfl) ?_
    refine q_no ((et_test (ev_notNA (ev_callF (d := colD (firstCol (n1 + n2 - 1) J k)) (ea_cons ev_var (ea_cons ev_var ea_nil)) ⟨n1 + n2 - 1, J, k, rfl, okJ, k1, k6, cr.c0, rfl⟩))).is (by rw [non]; rfl)) ?_
    refine q_set (d := .bl (critB (n1 + n2 - 1) J k)) (ev_callF (ea_cons ev_var (ea_cons ev_var ea_nil)) ⟨n1 + n2 - 1, J, k, rfl, cr, rfl⟩) ?_
    refine q_no (et_orF ((et_not (et_truB (ev_isi (t := "bool") (r := true) (ev_var (d := .bl (critB (n1 + n2 - 1) J k))) rfl rfl))).is rfl) (et_test (ev_neS (Pl.bl 0 (critB (n1 + n2 - 1) J k)) (by decide) ev_var ((ev_notNA (ev_var (d := rowD (firstCol (n2 + 1) P k)))).is (by
      rw [rowD_non, same]; cases firstCol (n2 + 1) P k <;> rfl))))) ?_
    have hpos : 0 < J.length := List.length_pos_iff.mpr ne
    obtain ⟨i, hi, hi2⟩ : ∃ i : Nat, z.fmod (J.length : Int) = (i : Int) ∧ i < J.length := by
      have h3 := Int.fmod_lt_of_pos z (b := (J.length : Int)) (by omega)
      have h4 := Int.fmod_nonneg_of_pos z (b := (J.length : Int)) (by omega)
      exact ⟨(z.fmod (J.length : Int)).toNat, by omega, by omega⟩
    have hget : J[i]? = some J[i] := List.getElem?_eq_getElem hi2
    have hm : J[i] ∈ J := List.getElem_mem hi2
    generalize J[i] = p at *
    obtain ⟨a1, a2⟩ := okJ.lt p hm
    refine q_asg (js := [19, 20]) (ev_ixA (d := pN p) (ds := J.map pN) (EvG.l ev_var) ((ev_mod (ev_int1 ev_var) ((ev_len (ds := J.map pN) (EvG.l ev_var)).is (by rw [List.length_map])) (by omega)).is (by rw [hi])) (atI_nat (by rw [List.getElem?_map, hget]; rfl))) (ga_pair p) ?_
    show GoS c A0 [.dat (lG n1 A), .dat (lG n2 B), .dat (nI k), .dat (.lst [nI x, nI y, nI node]), .dat (lotD mv), .dat (.int z), .dat (nI x), .dat (nI y), .dat (nI node), .dat (nI (n1 + n2 - 1)), .dat (.lst (J.map pN)), .dat (gR c.K n1 A), .dat (gR c.K n2 B), .dat (.lst (mv.reverse.map nI)), .dat (gR c.K (n1 + n2 - 1) J), .dat (gR c.K (n2 + 1) P), .dat (lG (n2 + 1) P), .dat (rowD (firstCol (n2 + 1) P k)), .dat (.bl (critB (n1 + n2 - 1) J k)), .dat (nI p.1), .dat (nI p.2), .any, .any, .any] _ De
    refine q_set (d := .lst ((less J p).map pN)) (EvN.g (en_lcS J pN (fun q => decide (q ≠ p)) pN (fun q => [.dat (lG n1 A), .dat (lG n2 B), .dat (nI k), .dat (.lst [nI x, nI y, nI node]), .dat (lotD mv), .dat (.int z), .dat (nI x), .dat (nI y), .dat (nI node), .dat (nI (n1 + n2 - 1)), .dat (.lst (J.map pN)), .dat (gR c.K n1 A), .dat (gR c.K n2 B), .dat (.lst (mv.reverse.map nI)), .dat (gR c.K (n1 + n2 - 1) J), .dat (gR c.K (n2 + 1) P), .dat (lG (n2 + 1) P), .dat (rowD (firstCol (n2 + 1) P k)), .dat (.bl (critB (n1 + n2 - 1) J k)), .dat (nI p.1), .dat (nI p.2), .any, .any, .dat (pN q)]) (ev_var (i := 10)) (js := [23]) (by simp) (by have := okJ.few; omega)
      (fun q A' hx => gg_name (i := 23) (Γ := [.dat (lG n1 A), .dat (lG n2 B), .dat (nI k), .dat (.lst [nI x, nI y, nI node]), .dat (lotD mv), .dat (.int z), .dat (nI x), .dat (nI y), .dat (nI node), .dat (nI (n1 + n2 - 1)), .dat (.lst (J.map pN)), .dat (gR c.K n1 A), .dat (gR c.K n2 B), .dat (.lst (mv.reverse.map nI)), .dat (gR c.K (n1 + n2 - 1) J), .dat (gR c.K (n2 + 1) P), .dat (lG (n2 + 1) P), .dat (rowD (firstCol (n2 + 1) P k)), .dat (.bl (critB (n1 + n2 - 1) J k)), .dat (nI p.1), .dat (nI p.2), .any, .any, .any]) (by simp)) (fun q A' hx => et_test (pN_ne (p := q) (q := p) ev_var (ev_pair ev_var ev_var))) (fun q A' hx _ => ev_var))) ?_
    have hnorm : norm (p.2, p.1) = p := by rw [norm_gt (p := (p.2, p.1)) (by show ¬ p.2 < p.1; omega)]
    have okL := okJ.less p
    refine q_set (d := colD (firstCol (n1 + n2 - 1) (less J p) k)) (ev_callF (ea_cons (ev_methF (d := gR c.K (n1 + n2 - 1) (less J p)) (ev_var (i := 14)) (by decide +kernel) (ea_cons ev_var (ea_cons ev_var ea_nil)) ⟨n1 + n2 - 1, J, p.2, p.1, rfl, okJ, a2, by omega, by omega, by rw [hnorm]; exact hm, by rw [hnorm]⟩) (ea_cons ev_var ea_nil)) ⟨n1 + n2 - 1, less J p, k, rfl, okL, k1, k6, cr.c1 p hm, rfl⟩) ?_
    refine g_retF (ev_callF (d := .bl true) (ea_cons ev_var (ea_cons (ev_callF (d := rowD (firstCol (n1 + n2 - 1) (less J p) k)) (ea_cons ev_var (ea_cons ev_var (ea_cons ev_var ea_nil))) ⟨n1 + n2 - 1, less J p, k, rfl, okL, k1, k6, rfl⟩) ea_nil)) ⟨firstCol (n1 + n2 - 1) (less J p) k, rfl, fun r h => by rw [firstCol_len h]; have := okL.le; omega, rfl⟩) hr
end
end HD
end
section
set_option Elab.async false
set_option linter.all false
set_option maxRecDepth 100000
set_option maxHeartbeats 4000000
/-! S14: the world, the lots picked, the law. -/
namespace HD
open PySem PySem.Spec L2 DL CM
abbrev Gp := Nat × List Pr
def gD (g : Gp) : D := lG g.1 g.2
def kOf (kd : Nat) : Nat := [2, 2, 3, 3, 3, 3, 4, 3].getD kd 0
def w5 : Gp := (6, rimE 5 true)
def c1 (kd : Nat) : Gp := (kOf kd + 1, clqE (kOf kd + 1))
def rm (t : Nat) : Gp := (3 + 2 * t, rimE (3 + 2 * t) false)
def f1 (kd t : Nat) : Gp := if kd < 2 then rm t else c1 kd
def f2 (kd t : Nat) : Gp := if kd = 5 then w5 else f1 kd t
def s2 (kd t : Nat) : Gp := if kd = 4 then w5 else f1 kd t
def s3 (kd t : Nat) : Gp := if kd = 7 then (9, twoE) else s2 kd t
def kdF (ns : List Int) : Nat := ((srcZ ns 0).fmod 8).toNat
def tF (ns : List Int) (m : Int) : Nat := (((srcZ ns 0).fdiv m).fmod 2).toNat
def mapG (g : Gp) (o : List Nat) : Gp := (g.1, mapE g.2 o)
def gA (ns : List Int) : Gp := mapG (f2 (kdF ns) (tF ns 8)) (orderF (f2 (kdF ns) (tF ns 8)).1 (srcZ ns 2))
def ordB (ns : List Int) : List Nat := orderF (s3 (kdF ns) (tF ns 16)).1 (srcZ ns 1)
def gB (ns : List Int) : Gp := mapG (s3 (kdF ns) (tF ns 16)) (ordB ns)
def ordF (ns : List Int) : List Nat := if kdF ns < 7 then [] else ordB ns
def P__law_world (ds : List D) (d : D) : Prop := ∃ ns : List Int, ds = [.sq (ns.map D.int)] ∧ ns.length ≤ 63 ∧ d = .lst [nI (kOf (kdF ns)), gD (gA ns), gD (gB ns), .lst ((ordF ns).map nI), .int ((srcZ ns 0).fdiv 32)]
def ixZ (z : Int) (n : Nat) : Nat := (z.fmod (n : Int)).toNat
def pickF (n1 n2 : Nat) (B : List Pr) (ord : List Nat) (node : Nat) (z : Int) : List (List Nat) :=
  if ord = [] ∧ n1 + n2 ≤ 8 then lotsF (sortN (nearOf node B)) else
  if ord = [] then [(lotsF (sortN (nearOf node B))).getD (ixZ z (lotsF (sortN (nearOf node B))).length) [], (lotsF (sortN (nearOf node B))).getD (ixZ (z.fdiv ((lotsF (sortN (nearOf node B))).length : Int)) (lotsF (sortN (nearOf node B))).length) []] else
  if (z.fdiv ((lotsF (sortN (nearOf node B))).length : Int)).fmod 2 = 1 then [(lotsF (sortN (nearOf node B))).getD (ixZ z (lotsF (sortN (nearOf node B))).length) [], sortN ((ord.drop 1).take 3)] else
  [(lotsF (sortN (nearOf node B))).getD (ixZ z (lotsF (sortN (nearOf node B))).length) [], sortN ((ord.drop 4).take 3)]
def P__law_picked (ds : List D) (d : D) : Prop := ∃ n1 A n2 B ord node, ∃ z : Int, ds = [lG n1 A, lG n2 B, .lst (ord.map nI), nI node, .int z] ∧ GOk n2 B ∧ node < n2 ∧ 2 ≤ (nearOf node B).length ∧ (nearOf node B).length ≤ 10 ∧ (ord = [] ∨ 7 ≤ ord.length) ∧ d = .lst ((pickF n1 n2 B ord node z).map lotD)
theorem ixZ_spec (z : Int) {n : Nat} (h : 0 < n) : z.fmod (n : Int) = (ixZ z n : Int) ∧ ixZ z n < n := by
  have h3 := Int.fmod_lt_of_pos z (b := (n : Int)) (by omega)
  have h4 := Int.fmod_nonneg_of_pos z (b := (n : Int)) (by omega)
  unfold ixZ
  omega
theorem kd_lt (ns : List Int) : kdF ns < 8 := (ixZ_spec (srcZ ns 0) (n := 8) (by decide)).2
theorem t_lt (ns : List Int) (m : Int) : tF ns m < 2 := (ixZ_spec ((srcZ ns 0).fdiv m) (n := 2) (by decide)).2
def inR (g : Gp) : Bool := decide (1 ≤ g.1) && decide (g.1 ≤ 40) && g.2.all (fun p => decide (p.1 < p.2) && decide (p.2 < g.1)) && decide (g.2.length ≤ 1000)
theorem base_ok : ∀ kd, kd < 8 → ∀ t, t < 2 → inR (f2 kd t) = true ∧ inR (s3 kd t) = true := by decide +kernel
theorem inR_le {g : Gp} (h : inR g = true) : 1 ≤ g.1 ∧ g.1 ≤ 40 ∧ (∀ p ∈ g.2, p.1 < p.2 ∧ p.2 < g.1) ∧ g.2.length ≤ 1000 := by
  unfold inR at h
  simp only [Bool.and_eq_true, decide_eq_true_eq, List.all_eq_true] at h
  obtain ⟨⟨⟨a, b⟩, c⟩, d⟩ := h
  exact ⟨a, b, c, d⟩
theorem orderF_len (n : Nat) (z : Int) : (orderF n z).length = n := by have := (orderF_perm n z).length_eq; simpa using this
theorem lots_len (row : List Nat) : (lotsF row).length = 2 ^ row.length - 2 := by
  unfold lotsF
  rw [List.length_dropLast, List.length_drop, subs_len]
  omega
theorem lots_pos {row : List Nat} (h : 2 ≤ row.length) (h2 : row.length ≤ 10) : 0 < (lotsF row).length ∧ (lotsF row).length ≤ 1024 := by
  rw [lots_len]
  have h3 : 2 ^ 2 ≤ 2 ^ row.length := Nat.pow_le_pow_right (by decide) h
  have h4 : 2 ^ row.length ≤ 2 ^ 10 := Nat.pow_le_pow_right (by decide) h2
  omega
theorem cut3 {o : List Nat} (a : Nat) (h : a + 3 ≤ o.length) : cutD (o.map nI) (some (a : Int)) (some ((a + 3 : Nat) : Int)) = ((o.drop a).take 3).map nI := by
  unfold cutD
  rw [List.length_map]
  have e1 : HT.sIx o.length 0 (some (a : Int)) = a := by unfold HT.sIx; simp only; split <;> omega
  have e2 : HT.sIx o.length o.length (some ((a + 3 : Nat) : Int)) = a + 3 := by unfold HT.sIx; simp only; split <;> omega
  rw [e1, e2, List.map_take, List.map_drop, Nat.add_sub_cancel_left]
section
variable {c : Ct} {A : Hp} {Γ Γ' : List Sl} {te ta tb : TE} {De : Ends} {t u : TS}
theorem ev_eqZ {a b : Int} (h1 : EvG c A Γ ta (.int a)) (h2 : EvG c A Γ tb (.int b)) : EvG c A Γ (tOp (rEqD c.K) ta tb) (.bl (decide (a = b))) :=
  (ev_eqD h1 h2 rfl rfl rfl rfl).is (by
    show D.bl (PyData.eqv (.int a) (.int b)) = _
    rw [eqv_int])
/-- a branch that ends in the same knowledge -/
theorem q_ifG {tt : TT} {b : Bool} (Γ' : List Sl) (h : EvT c A Γ tt b) (h1 : b = true → ∀ De' : Ends, De'.rt = De.rt → GoN c A Γ' De'.nx → GoS c A Γ t De') (h2 : b = false → Wk Γ Γ') (k : GoS c A Γ' u De) : GoS c A Γ (tSeq (tIfS tt t tNext) u) De :=
  g_seq (g_if h (fun e => h1 e { De with nx := u De } rfl k) fun e => g_next (n_wk (h2 e) k))
end
section
variable {K : PySem.W.Frag}
theorem if_same {α : Type} {p : Prop} [Decidable p] {a : α} (h : ¬ p) {b : α} : b = if p then a else b := by rw [if_neg h]
theorem r__law_picked : ∀ vs H Q E, spF K P__law_picked vs H Q E → t__law_picked K (spF K P__law_lots) (spF K P__law_beside) { nx := fun _ H' => Q .non H', rt := Q } (L2.start ["first", "second", "order", "node", "number", "lots", "one"] vs) H :=
  rd_ofF fun c A0 ds d De hK hp hr hn => by
    obtain ⟨n1, A, n2, B, ord, node, z, rfl, ok, hnode, d1, d2, ho, rfl⟩ := hp
    subst hK
    show GoS c A0 [.dat (lG n1 A), .dat (lG n2 B), .dat (.lst (ord.map nI)), .dat (nI node), .dat (.int z), .any, .any] (t__law_picked c.K _ _) De
    have ixn : ∀ {A : Hp} {Γ : List Sl} {i n : Nat} {E : List Pr}, Γ[i]? = some (.dat (lG n E)) → EvG c A Γ (tOp (rIxA c.K) (tVar i) (tC (.int 0))) (nI n) := fun {A Γ i n E} h => ev_ixA (ds := [nI n, .lst (E.map pN)]) (EvG.l (ev_var h)) ev_int rfl
    have ixe : ∀ {A : Hp} {Γ : List Sl} {i n : Nat} {E : List Pr}, Γ[i]? = some (.dat (lG n E)) → EvG c A Γ (tOp (rIxA c.K) (tVar i) (tC (.int 1))) (.lst (E.map pN)) := fun {A Γ i n E} h => ev_ixA (ds := [nI n, .lst (E.map pN)]) (EvG.l (ev_var h)) ev_int rfl
    have hat : atI ((near n2 B).map fun r => D.lst ((sortN r).map nI)) ((node : Nat) : Int) = some (.lst ((sortN (nearOf node B)).map nI)) := atI_nat (by rw [List.getElem?_map, near_at hnode]; rfl)
    have hsl : (sortN (nearOf node B)).length = (nearOf node B).length := (sortN_perm _).length_eq
    refine q_set (d := .lst ((lotsF (sortN (nearOf node B))).map lotD)) (ev_callF (ea_cons (ev_ixA (ds := (near n2 B).map fun r => D.lst ((sortN r).map nI)) (EvG.l (ev_callF (ea_cons (ixn (n := n2) (E := B) rfl) (ea_cons (ixe (n := n2) (E := B) rfl) ea_nil)) ⟨n2, B, rfl, ok, rfl⟩)) ev_var hat) ea_nil) ⟨sortN (nearOf node B), rfl, by omega, rfl⟩) ?_
    unfold pickF at hr
    generalize hL : lotsF (sortN (nearOf node B)) = L at *
    obtain ⟨l1, l2⟩ : 0 < L.length ∧ L.length ≤ 1024 := by rw [← hL]; exact lots_pos (by omega) (by omega)
    have hlen : ∀ {A : Hp} {Γ : List Sl}, Γ[5]? = some (.dat (.lst (L.map lotD))) → EvG c A Γ (tCB (rLenA c.K) (tCons (tVar 5) tNil)) (nI L.length) := fun h => (ev_len (EvG.l (ev_var h))).is (by rw [List.length_map]; rfl)
    have hix : ∀ (z : Int) {A : Hp} {Γ : List Sl}, Γ[5]? = some (.dat (.lst (L.map lotD))) → Γ[4]? = some (.dat (.int z)) → EvG c A Γ (tOp (rIxA c.K) (tVar 5) (tOp (rI (fun _ j => j ≠ 0) fun i j => .int (i.fmod j)) (tCB rInt1A (tCons (tVar 4) tNil)) (tCB (rLenA c.K) (tCons (tVar 5) tNil)))) (lotD (L.getD (ixZ z L.length) [])) := fun z A Γ h1 h2 => by
      obtain ⟨e1, e2⟩ := ixZ_spec z l1
      exact ev_ixA (ds := L.map lotD) (EvG.l (ev_var h1)) ((ev_mod (ev_int1 (ev_var h2)) (hlen h1) (by omega)).is (by rw [e1])) (atI_nat (by rw [List.getElem?_map, List.getD_eq_getElem?_getD, List.getElem?_eq_getElem e2]; rfl))
    refine q_if (et_and (et_test (ev_eqNil (r := ord) ev_var)) fun _ => et_test (ev_le (ev_addA (ixn (n := n1) (E := A) rfl) (ixn (n := n2) (E := B) rfl)) ev_int)) (fun e => ?_) fun e => ?_
    · obtain ⟨q1, q2⟩ := Bool.and_eq_true_iff.mp e
      have q2' := of_decide_eq_true q2
      rw [if_pos ⟨List.isEmpty_iff.mp q1, by omega⟩] at hr
      exact g_retF ev_var hr
    · have hno : ¬ (ord = [] ∧ n1 + n2 ≤ 8) := fun ⟨a, b⟩ => by
        rw [a, decide_eq_true (by omega : (n1 : Int) + (n2 : Int) ≤ 8)] at e; cases e
      rw [if_neg hno] at hr
      refine q_set (hix z rfl rfl) ?_
      refine q_set (ev_fdiv ev_var (hlen rfl) ⟨by omega, by omega⟩) ?_
      refine q_if (et_test (ev_eqNil (r := ord) ev_var)) (fun e => ?_) fun e => ?_
      · rw [if_pos (List.isEmpty_iff.mp e)] at hr
        exact g_retF (EvN.g (en_ls (ea_cons ev_var (ea_cons (hix _ rfl rfl) ea_nil)))) hr
      · have hne : ord ≠ [] := fun q => by rw [q] at e; cases e
        rw [if_neg hne] at hr
        have h7 : 7 ≤ ord.length := ho.resolve_left hne
        refine q_if (et_test (ev_eqZ (ev_mod (ev_int1 ev_var) ev_int (by decide)) ev_int)) (fun e => ?_) fun e => ?_
        · rw [if_pos (of_decide_eq_true e)] at hr
          exact g_retF (EvN.g (en_ls (ea_cons ev_var (ea_cons (EvN.g (en_sortNs (xs := (ord.drop 1).take 3) (EvN.l ((en_slice (ds := ord.map nI) (EvG.l ev_var) (eo_some ev_int) (eo_some ev_int)).is (cut3 (o := ord) 1 (by omega)))))) ea_nil)))) hr
        · rw [if_neg (of_decide_eq_false e)] at hr
          exact g_retF (EvN.g (en_ls (ea_cons ev_var (ea_cons (EvN.g (en_sortNs (xs := (ord.drop 4).take 3) (EvN.l ((en_slice (ds := ord.map nI) (EvG.l ev_var) (eo_some ev_int) (eo_some ev_int)).is (cut3 (o := ord) 4 (by omega)))))) ea_nil)))) hr
theorem r__law_world : ∀ vs H Q E, spF K P__law_world vs H Q E → t__law_world K (spF K P__law_source) (spF K P__law_clique) (spF K P__law_rim) (spF K P__law_two_sides) (spF K P__law_order) (spF K P__law_mapped) { nx := fun _ H' => Q .non H', rt := Q } (L2.start ["script", "one", "kind", "k", "first", "second", "order", "turn"] vs) H :=
  rd_ofF fun c A0 ds d De hK hp hr hn => by
    obtain ⟨ns, rfl, h63, rfl⟩ := hp
    subst hK
    have hkd := kd_lt ns
    have ht1 := t_lt ns 8
    have ht2 := t_lt ns 16
    obtain ⟨a1, a2, a3, a4⟩ := inR_le (base_ok _ hkd _ ht1).1
    obtain ⟨b1, b2, b3, b4⟩ := inR_le (base_ok _ hkd _ ht2).2
    have ez : (srcZ ns 0).fmod 8 = (kdF ns : Int) := (ixZ_spec (srcZ ns 0) (n := 8) (by decide)).1
    have et1 : ((srcZ ns 0).fdiv 8).fmod 2 = (tF ns 8 : Int) := (ixZ_spec ((srcZ ns 0).fdiv 8) (n := 2) (by decide)).1
    have et2 : ((srcZ ns 0).fdiv 16).fmod 2 = (tF ns 16 : Int) := (ixZ_spec ((srcZ ns 0).fdiv 16) (n := 2) (by decide)).1
    have r1 : RetOk c (fun x => x = .lst [nI (kOf (kdF ns)), gD (mapG (f2 (kdF ns) (tF ns 8)) (orderF (f2 (kdF ns) (tF ns 8)).1 (srcZ ns 2))), gD (mapG (s3 (kdF ns) (tF ns 16)) (orderF (s3 (kdF ns) (tF ns 16)).1 (srcZ ns 1))), .lst ((if kdF ns < 7 then [] else orderF (s3 (kdF ns) (tF ns 16)).1 (srcZ ns 1)).map nI), .int ((srcZ ns 0).fdiv 32)]) De.rt := hr
    clear hr
    generalize kdF ns = kd at *
    generalize tF ns 8 = t1 at *
    generalize tF ns 16 = t2 at *
    show GoS c A0 [.dat (.sq (ns.map D.int)), .any, .any, .any, .any, .any, .any, .any] (t__law_world c.K _ _ _ _ _ _) De
    have ixn : ∀ {A : Hp} {Γ : List Sl} {i : Nat} {g : Gp}, Γ[i]? = some (.dat (gD g)) → EvG c A Γ (tOp (rIxA c.K) (tVar i) (tC (.int 0))) (nI g.1) := fun {A Γ i g} h => ev_ixA (ds := [nI g.1, .lst (g.2.map pN)]) (EvG.l (ev_var h)) ev_int rfl
    have ixe : ∀ {A : Hp} {Γ : List Sl} {i : Nat} {g : Gp}, Γ[i]? = some (.dat (gD g)) → EvG c A Γ (tOp (rIxA c.K) (tVar i) (tC (.int 1))) (.lst (g.2.map pN)) := fun {A Γ i g} h => ev_ixA (ds := [nI g.1, .lst (g.2.map pN)]) (EvG.l (ev_var h)) ev_int rfl
    have hk4 : kOf kd ≤ 4 := by
      have : ∀ kd, kd < 8 → kOf kd ≤ 4 := by decide
      exact this kd hkd
    refine q_set (ev_callF (d := .int (srcZ ns 0)) (ea_cons ev_var (ea_cons ev_int ea_nil)) ⟨ns, 0, rfl, h63, rfl⟩) ?_
    refine q_set (d := nI kd) ((ev_mod (ev_int1 ev_var) ev_int (by decide)).is (by rw [ez]; rfl)) ?_
    have hkat : atI ([2, 2, 3, 3, 3, 3, 4, 3].map nI) (kd : Int) = some (nI (kOf kd)) := atI_nat (by
      have : ∀ kd, kd < 8 → [2, 2, 3, 3, 3, 3, 4, 3][kd]? = some (kOf kd) := by decide
      rw [List.getElem?_map, this kd hkd]; rfl)
    refine q_set (d := nI (kOf kd)) (ev_ixA (ds := [2, 2, 3, 3, 3, 3, 4, 3].map nI) (EvN.l (en_ls (ea_cons ev_int (ea_cons ev_int (ea_cons ev_int (ea_cons ev_int (ea_cons ev_int (ea_cons ev_int (ea_cons ev_int (ea_cons ev_int ea_nil)))))))))) ev_var hkat) ?_
    refine q_set (d := gD (c1 kd)) (ev_callF (ea_cons ((ev_addA ev_var ev_int).is (e := nI (kOf kd + 1)) rfl) ea_nil) ⟨_, rfl, by omega, rfl⟩) ?_
    refine q_set (d := gD (c1 kd)) (ev_callF (ea_cons ((ev_addA ev_var ev_int).is (e := nI (kOf kd + 1)) rfl) ea_nil) ⟨_, rfl, by omega, rfl⟩) ?_
    show GoS c A0 [.dat (.sq (ns.map D.int)), .dat (.int (srcZ ns 0)), .dat (nI kd), .dat (nI (kOf kd)), .dat (gD (c1 kd)), .dat (gD (c1 kd)), .any, .any] _ De
    refine q_ifG [.dat (.sq (ns.map D.int)), .dat (.int (srcZ ns 0)), .dat (nI kd), .dat (nI (kOf kd)), .dat (gD (f1 kd t1)), .dat (gD (f1 kd t2)), .any, .any] (et_test (ev_lt (i := (kd : Int)) (j := 2) ev_var ev_int)) (fun e De' hrt hnx => ?_) (fun e => ?_) ?_
    · have e' : kd < 2 := by have := of_decide_eq_true e; omega
      have ef : ∀ t, f1 kd t = rm t := fun t => by unfold f1; rw [if_pos e']
      rw [ef, ef] at hnx
      have rr : ∀ {A : Hp} {Γ : List Sl} (t : Nat) (m : Int), m ≠ 0 → m.natAbs < 1073741824 → ((srcZ ns 0).fdiv m).fmod 2 = (t : Int) → t < 2 → Γ[1]? = some (.dat (.int (srcZ ns 0))) → EvG c A Γ (tCall (spF c.K P__law_rim) [] E0 (tCons (tOp rAddA (tC (.int 3)) (tOp (rI CMul fun i j => .int (i * j)) (tC (.int 2)) (tOp (rI (fun _ j => j ≠ 0) fun i j => .int (i.fmod j)) (tOp (rI CDivN fun i j => .int (i.fdiv j)) (tCB rInt1A (tCons (tVar 1) tNil)) (tC (.int m))) (tC (.int 2))))) (tCons (tC (.bl false)) tNil))) (gD (rm t)) := fun {A Γ} t m m0 m1 hm ht h => by
        refine ev_callF (ea_cons ((ev_addA ev_int (ev_mul ev_int (ev_mod (ev_fdiv (ev_int1 (ev_var h)) ev_int ⟨m0, m1⟩) ev_int (by decide)) (.inl (by decide)))).is (e := nI (3 + 2 * t)) ?_) (ea_cons ev_bl ea_nil)) ⟨3 + 2 * t, false, rfl, by omega, by omega, rfl⟩
        rw [hm]; unfold nI; congr 1
      exact g_seq (g_set (rr t1 8 (by decide) (by decide) et1 ht1 rfl) (by simp) (g_set (rr t2 16 (by decide) (by decide) et2 ht2 rfl) (by simp) hnx))
    · have e' : ¬ kd < 2 := by have := of_decide_eq_false e; omega
      have ef : ∀ t, f1 kd t = c1 kd := fun t => by unfold f1; rw [if_neg e']
      rw [ef, ef]; exact Wk.refl _
    refine q_ifG [.dat (.sq (ns.map D.int)), .dat (.int (srcZ ns 0)), .dat (nI kd), .dat (nI (kOf kd)), .dat (gD (f1 kd t1)), .dat (gD (s2 kd t2)), .any, .any] (et_test (ev_eqN (a := kd) (b := 4) ev_var ev_int)) (fun e De' hrt hnx => ?_) (fun e => ?_) ?_
    · have e' := of_decide_eq_true e
      have ef : s2 kd t2 = w5 := by unfold s2; rw [if_pos e']
      rw [ef] at hnx
      exact g_set (d := gD w5) (ev_callF (ea_cons ev_int (ea_cons ev_bl ea_nil)) ⟨5, true, rfl, by decide, by decide, rfl⟩) (by simp) hnx
    · have e' := of_decide_eq_false e
      have ef : s2 kd t2 = f1 kd t2 := by unfold s2; rw [if_neg e']
      rw [ef]; exact Wk.refl _
    refine q_ifG [.dat (.sq (ns.map D.int)), .dat (.int (srcZ ns 0)), .dat (nI kd), .dat (nI (kOf kd)), .dat (gD (f2 kd t1)), .dat (gD (s2 kd t2)), .any, .any] (et_test (ev_eqN (a := kd) (b := 5) ev_var ev_int)) (fun e De' hrt hnx => ?_) (fun e => ?_) ?_
    · have e' := of_decide_eq_true e
      have ef : f2 kd t1 = w5 := by unfold f2; rw [if_pos e']
      rw [ef] at hnx
      exact g_set (d := gD w5) (ev_callF (ea_cons ev_int (ea_cons ev_bl ea_nil)) ⟨5, true, rfl, by decide, by decide, rfl⟩) (by simp) hnx
    · have e' := of_decide_eq_false e
      have ef : f2 kd t1 = f1 kd t1 := by unfold f2; rw [if_neg e']
      rw [ef]; exact Wk.refl _
    refine q_ifG [.dat (.sq (ns.map D.int)), .dat (.int (srcZ ns 0)), .dat (nI kd), .dat (nI (kOf kd)), .dat (gD (f2 kd t1)), .dat (gD (s3 kd t2)), .any, .any] (et_test (ev_eqN (a := kd) (b := 7) ev_var ev_int)) (fun e De' hrt hnx => ?_) (fun e => ?_) ?_
    · have e' := of_decide_eq_true e
      have ef : s3 kd t2 = (9, twoE) := by unfold s3; rw [if_pos e']
      rw [ef] at hnx
      exact g_set (d := gD (9, twoE)) (ev_callF ea_nil ⟨rfl, rfl⟩) (by simp) hnx
    · have e' := of_decide_eq_false e
      have ef : s3 kd t2 = s2 kd t2 := by unfold s3; rw [if_neg e']
      rw [ef]; exact Wk.refl _
    generalize f2 kd t1 = g1 at *
    generalize s3 kd t2 = g2 at *
    have hb : ∀ p ∈ g2.2, p.1 < (orderF g2.1 (srcZ ns 1)).length ∧ p.2 < (orderF g2.1 (srcZ ns 1)).length := fun p hp => by
      have := b3 p hp
      rw [orderF_len]; omega
    have ha : ∀ p ∈ g1.2, p.1 < (orderF g1.1 (srcZ ns 2)).length ∧ p.2 < (orderF g1.1 (srcZ ns 2)).length := fun p hp => by
      have := a3 p hp
      rw [orderF_len]; omega
    refine q_set (ev_callF (d := .lst ((orderF g2.1 (srcZ ns 1)).map nI)) (ea_cons (ixn (g := g2) rfl) (ea_cons (ev_callF (d := .int (srcZ ns 1)) (ea_cons ev_var (ea_cons ev_int ea_nil)) ⟨ns, 1, rfl, h63, rfl⟩) ea_nil)) ⟨g2.1, srcZ ns 1, rfl, by omega, rfl⟩) ?_
    generalize orderF g2.1 (srcZ ns 1) = o2 at *
    refine q_set (d := gD (mapG g2 o2)) (EvN.g (en_ls (ea_cons (ixn (g := g2) rfl) (ea_cons (ev_callF (ea_cons (ixe (g := g2) rfl) (ea_cons ev_var ea_nil)) ⟨g2.2, o2, rfl, hb, by omega, rfl⟩) ea_nil)))) ?_
    refine q_set (ev_callF (d := .lst ((orderF g1.1 (srcZ ns 2)).map nI)) (ea_cons (ixn (g := g1) rfl) (ea_cons (ev_callF (d := .int (srcZ ns 2)) (ea_cons ev_var (ea_cons ev_int ea_nil)) ⟨ns, 2, rfl, h63, rfl⟩) ea_nil)) ⟨g1.1, srcZ ns 2, rfl, by omega, rfl⟩) ?_
    generalize orderF g1.1 (srcZ ns 2) = o1 at *
    refine q_set (d := gD (mapG g1 o1)) (EvN.g (en_ls (ea_cons (ixn (g := g1) rfl) (ea_cons (ev_callF (ea_cons (ixe (g := g1) rfl) (ea_cons ev_var ea_nil)) ⟨g1.2, o1, rfl, ha, by omega, rfl⟩) ea_nil)))) ?_
    show GoS c A0 [.dat (.sq (ns.map D.int)), .dat (.int (srcZ ns 0)), .dat (nI kd), .dat (nI (kOf kd)), .dat (gD (mapG g1 o1)), .dat (gD (mapG g2 o2)), .dat (.lst (o2.map nI)), .dat (.lst (o1.map nI))] _ De
    refine q_ifG [.dat (.sq (ns.map D.int)), .dat (.int (srcZ ns 0)), .dat (nI kd), .dat (nI (kOf kd)), .dat (gD (mapG g1 o1)), .dat (gD (mapG g2 o2)), .dat (.lst ((if kd < 7 then [] else o2).map nI)), .dat (.lst (o1.map nI))] (et_test (ev_lt (i := (kd : Int)) (j := 7) ev_var ev_int)) (fun e De' hrt hnx => ?_) (fun e => ?_) ?_
    · have e' : kd < 7 := by have := of_decide_eq_true e; omega
      rw [if_pos e'] at hnx
      exact g_set (d := .lst []) (EvN.g (en_ls ea_nil)) (by simp) hnx
    · have e' : ¬ kd < 7 := by have := of_decide_eq_false e; omega
      rw [if_neg e']; exact Wk.refl _
    exact g_retF (EvN.g (en_ls (ea_cons ev_var (ea_cons ev_var (ea_cons ev_var (ea_cons ev_var (ea_cons (ev_fdiv ev_var ev_int ⟨by decide, by decide⟩) ea_nil))))))) r1
end
end HD
end
section
set_option Elab.async false
set_option linter.all false
set_option maxRecDepth 100000
set_option maxHeartbeats 4000000
/-! S15: the law. -/
namespace HD
open PySem PySem.Spec L2 DL CM
/-- what is asked of a world -/
structure Wd (k : Nat) (a b : Gp) (ord : List Nat) : Prop where
  crA : CrOk a.1 a.2 k
  yA : critB a.1 a.2 k = true
  crB : CrOk b.1 b.2 k
  yB : critB b.1 b.2 k = true
  neA : a.2 ≠ []
  n2 : 1 ≤ b.1
  deg : ∀ v, v < b.1 → 2 ≤ (nearOf v b.2).length ∧ (nearOf v b.2).length ≤ 10
  od : ord = [] ∨ (7 ≤ ord.length ∧ ord.getD 0 0 < b.1)
  lot : ∀ (node : Nat) (z : Int) (p : Pr), node < b.1 → (ord ≠ [] → node = ord.getD 0 0) → p ∈ a.2 → ∀ mv ∈ pickF a.1 b.1 b.2 ord node z, LR a.1 a.2 b.1 b.2 k p.1 p.2 node mv ∧ LR a.1 a.2 b.1 b.2 k p.2 p.1 node mv
  side : ord ≠ [] → ∀ z : Int, ∃ mv, (pickF a.1 b.1 b.2 ord (ord.getD 0 0) z)[1]? = some mv ∧ firstCol (b.1 + 1) (sortE (partL b.1 b.2 (ord.getD 0 0) mv)) k = none
def P_law (ds : List D) (d : D) : Prop := ∃ ns : List Int, ds = [.sq (ns.map D.int)] ∧ ns.length ≤ 63 ∧ d = .bl true
def itr : Nat → Int → Int
  | 0, z => z
  | n + 1, z => (itr n z).fdiv 32
section
variable {K : PySem.W.Frag} (gf : GF K) (hw : ∀ ns : List Int, Wd (kOf (kdF ns)) (gA ns) (gB ns) (ordF ns))
include gf hw
theorem r_law : ∀ vs H Q E, spF K P_law vs H Q E → t_law K (spF K P__law_world) (spF K (P_is_critical K)) (spIF K (GC K) gNs P_Graph_init) (spF K P__law_picked) (spF K P__law_source) (spF K P__law_lot_right) (spF K P__law_parted) (spF K P__law_colouring) { nx := fun _ H' => Q .non H', rt := Q } (L2.start ["script", "k", "first", "second", "order", "number", "x", "y", "node", "part", "lots", "joint", "moved", "apart"] vs) H :=
  rd_ofF fun c A0 ds d De hK hp hr hn => by
    obtain ⟨ns, rfl, h63, rfl⟩ := hp
    subst hK
    show GoS c A0 [.dat (.sq (ns.map D.int)), .any, .any, .any, .any, .any, .any, .any, .any, .any, .any, .any, .any, .any] (t_law c.K _ _ _ _ _ _ _ _) De
    have ixn : ∀ {A : Hp} {Γ : List Sl} {i : Nat} {g : Gp}, Γ[i]? = some (.dat (gD g)) → EvG c A Γ (tOp (rIxA c.K) (tVar i) (tC (.int 0))) (nI g.1) := fun {A Γ i g} h => ev_ixA (ds := [nI g.1, .lst (g.2.map pN)]) (EvG.l (ev_var h)) ev_int rfl
    have ixe : ∀ {A : Hp} {Γ : List Sl} {i : Nat} {g : Gp}, Γ[i]? = some (.dat (gD g)) → EvG c A Γ (tOp (rIxA c.K) (tVar i) (tC (.int 1))) (.lst (g.2.map pN)) := fun {A Γ i g} h => ev_ixA (ds := [nI g.1, .lst (g.2.map pN)]) (EvG.l (ev_var h)) ev_int rfl
    refine q_asg (js := [1, 2, 3, 4, 5]) (ev_callF (ea_cons ev_var ea_nil) ⟨ns, rfl, h63, rfl⟩) (ga_lst (gs_cons (gg_name (i := 1) (by simp)) (gs_cons (gg_name (i := 2) (by simp)) (gs_cons (gg_name (i := 3) (by simp)) (gs_cons (gg_name (i := 4) (by simp)) (gs_cons (gg_name (i := 5) (by simp)) gs_nil))))) rfl) ?_
    obtain ⟨crA, yA, crB, yB, neA, n2, deg, od, lot, side⟩ := hw ns
    generalize kOf (kdF ns) = k at *
    generalize gA ns = a at *
    generalize gB ns = b at *
    generalize ordF ns = ord at *
    generalize (srcZ ns 0).fdiv 32 = z at *
    show GoS c A0 [.dat (.sq (ns.map D.int)), .dat (nI k), .dat (gD a), .dat (gD b), .dat (.lst (ord.map nI)), .dat (.int z), .any, .any, .any, .any, .any, .any, .any, .any] _ De
    have okA := crA.ok
    have okB := crB.ok
    have ha48 := okA.le
    have hb48 := okB.le
    have hafew := okA.few
    have hpos : 0 < a.2.length := List.length_pos_iff.mpr neA
    obtain ⟨hi, hi2⟩ := ixZ_spec z hpos
    generalize ixZ z a.2.length = i at *
    have hget : a.2[i]? = some a.2[i] := List.getElem?_eq_getElem hi2
    have hm : a.2[i] ∈ a.2 := List.getElem_mem hi2
    generalize a.2[i] = p at *
    have hlen : ∀ {A : Hp} {Γ : List Sl}, Γ[2]? = some (.dat (gD a)) → EvG c A Γ (tCB (rLenA c.K) (tCons (tOp (rIxA c.K) (tVar 2) (tC (.int 1))) tNil)) (nI a.2.length) := fun h => (ev_len (EvG.l (ixe h))).is (by rw [List.length_map]; rfl)
    refine q_asg (js := [6, 7]) (ev_ixA (d := pN p) (ds := a.2.map pN) (EvG.l (ixe (g := a) rfl)) ((ev_mod (ev_int1 ev_var) (hlen rfl) (by omega)).is (by rw [hi])) (atI_nat (by rw [List.getElem?_map, hget]; rfl))) (ga_pair p) ?_
    refine q_set (ev_fdiv ev_var (hlen rfl) ⟨by omega, by omega⟩) ?_
    generalize z.fdiv (a.2.length : Int) = z1
    show GoS c A0 [.dat (.sq (ns.map D.int)), .dat (nI k), .dat (gD a), .dat (gD b), .dat (.lst (ord.map nI)), .dat (.int z1), .dat (nI p.1), .dat (nI p.2), .any, .any, .any, .any, .any, .any] _ De
    obtain ⟨xy, hxy, hxy2⟩ : ∃ xy : Pr, (xy = if z1.fmod 2 = 1 then (p.2, p.1) else p) ∧ ∀ (node : Nat) (z : Int), node < b.1 → (ord ≠ [] → node = ord.getD 0 0) → ∀ mv ∈ pickF a.1 b.1 b.2 ord node z, LR a.1 a.2 b.1 b.2 k xy.1 xy.2 node mv := by
      refine ⟨_, rfl, fun node z h1 h2 mv h3 => ?_⟩
      have := lot node z p h1 h2 hm mv h3
      split
      · exact this.2
      · exact this.1
    refine q_ifG [.dat (.sq (ns.map D.int)), .dat (nI k), .dat (gD a), .dat (gD b), .dat (.lst (ord.map nI)), .dat (.int z1), .dat (nI xy.1), .dat (nI xy.2), .any, .any, .any, .any, .any, .any] (et_test (ev_eqZ (ev_mod (ev_int1 ev_var) ev_int (by decide)) ev_int)) (fun e De' hrt hnx => ?_) (fun e => ?_) ?_
    · rw [if_pos (of_decide_eq_true e)] at hxy
      subst hxy
      exact g_par (ea_cons ev_var (ea_cons ev_var ea_nil)) (by simp) (by simp) hnx
    · rw [if_neg (of_decide_eq_false e)] at hxy
      subst hxy
      exact Wk.refl _
    obtain ⟨hj, hj2⟩ := ixZ_spec (z1.fdiv 2) (n := b.1) (by omega)
    generalize ixZ (z1.fdiv 2) b.1 = nd0 at *
    refine q_set (d := nI nd0) ((ev_mod (ev_fdiv (ev_int1 ev_var) ev_int ⟨by decide, by decide⟩) (ixn (g := b) rfl) (by omega)).is (by rw [hj]; rfl)) ?_
    refine q_set (ev_fdiv (ev_fdiv ev_var ev_int ⟨by decide, by decide⟩) (ixn (g := b) rfl) ⟨by omega, by omega⟩) ?_
    generalize (z1.fdiv 2).fdiv (b.1 : Int) = z2
    show GoS c A0 [.dat (.sq (ns.map D.int)), .dat (nI k), .dat (gD a), .dat (gD b), .dat (.lst (ord.map nI)), .dat (.int z2), .dat (nI xy.1), .dat (nI xy.2), .dat (nI nd0), .any, .any, .any, .any, .any] _ De
    obtain ⟨node, hnode, hlt, hord⟩ : ∃ node : Nat, (node = if ord = [] then nd0 else ord.getD 0 0) ∧ node < b.1 ∧ (ord ≠ [] → node = ord.getD 0 0) := by
      refine ⟨_, rfl, ?_, fun h => if_neg h⟩
      split
      · exact hj2
      · rename_i h; exact (od.resolve_left h).2
    refine q_ifG [.dat (.sq (ns.map D.int)), .dat (nI k), .dat (gD a), .dat (gD b), .dat (.lst (ord.map nI)), .dat (.int z2), .dat (nI xy.1), .dat (nI xy.2), .dat (nI node), .any, .any, .any, .any, .any] (et_test (ev_neNil (r := ord) ev_var)) (fun e De' hrt hnx => ?_) (fun e => ?_) ?_
    · have hne : ord ≠ [] := fun q => by rw [q] at e; cases e
      rw [if_neg hne] at hnode
      subst hnode
      refine g_set (ev_ixA (ds := ord.map nI) (EvG.l ev_var) ev_int (atI_nat (j := 0) ?_)) (by simp) hnx
      have h7 := (od.resolve_left hne).1
      rw [List.getElem?_map, List.getD_eq_getElem?_getD, List.getElem?_eq_getElem (by omega)]; rfl
    · have hne : ord = [] := by
        cases ord with
        | nil => rfl
        | cons _ _ => cases e
      rw [if_pos hne] at hnode
      subst hnode
      exact Wk.refl _
    refine q_for [a, b] gD (fun i => [.dat (.sq (ns.map D.int)), .dat (nI k), .dat (gD a), .dat (gD b), .dat (.lst (ord.map nI)), .dat (.int z2), .dat (nI xy.1), .dat (nI xy.2), .dat (nI node), .any, .any, .any, .any, .any]) (fun i g => [.dat (.sq (ns.map D.int)), .dat (nI k), .dat (gD a), .dat (gD b), .dat (.lst (ord.map nI)), .dat (.int z2), .dat (nI xy.1), .dat (nI xy.2), .dat (nI node), .dat (gD g), .any, .any, .any, .any])
      (EvN.g (en_ls (ea_cons ev_var (ea_cons ev_var ea_nil)))) (Wk.refl _) (js := [9]) (fun i x A' hx => gg_name (i := 9) (Γ := [.dat (.sq (ns.map D.int)), .dat (nI k), .dat (gD a), .dat (gD b), .dat (.lst (ord.map nI)), .dat (.int z2), .dat (nI xy.1), .dat (nI xy.2), .dat (nI node), .any, .any, .any, .any, .any]) (by simp)) (fun i g A' De' hx hrt hnx hct hbk => ?_) ?_
    · have hg : CrOk g.1 g.2 k ∧ critB g.1 g.2 k = true := by
        rcases List.mem_cons.mp (List.mem_of_getElem? hx) with rfl | h
        · exact ⟨crA, yA⟩
        · rcases List.mem_cons.mp h with rfl | h
          · exact ⟨crB, yB⟩
          · cases h
      obtain ⟨hg1, hg2⟩ := hg
      have okg := hg1.ok
      refine g_ifF ((et_test (ev_notB (x := critB g.1 g.2 k) (y := true) (ev_callF (ea_cons (EvG.is (ev_makeF (ea_cons (ixn (g := g) rfl) (ea_cons (EvN.g (en_listL (EvG.l (ixe (g := g) rfl)))) ea_nil)) ⟨g.1, g.2, rfl, okg.le, okg.ed, rfl⟩) (e := gR c.K g.1 g.2) (by rw [okg.sort]; rfl)) (ea_cons ev_var ea_nil)) ⟨g.1, g.2, k, rfl, hg1, rfl⟩) ev_bl)).is (by rw [hg2]; rfl)) (g_next (n_wk (.same (.same (.same (.same (.same (.same (.same (.same (.same (.any (.any (.any (.any (.any .nil)))))))))))))) hnx))
    obtain ⟨e1, e2⟩ := deg node hlt
    refine q_set (ev_callF (d := .lst ((pickF a.1 b.1 b.2 ord node z2).map lotD)) (ea_cons ev_var (ea_cons ev_var (ea_cons ev_var (ea_cons ev_var (ea_cons ev_var ea_nil))))) ⟨a.1, a.2, b.1, b.2, ord, node, z2, rfl, okB, hlt, e1, e2, od.imp id (fun h => h.1), rfl⟩) ?_
    have hLR := hxy2 node z2 hlt hord
    have hside : ord ≠ [] → ∃ mv, (pickF a.1 b.1 b.2 ord node z2)[1]? = some mv ∧ firstCol (b.1 + 1) (sortE (partL b.1 b.2 node mv)) k = none := fun h => by
      rw [hord h]; exact side h z2
    generalize pickF a.1 b.1 b.2 ord node z2 = L at *
    refine q_set (ev_callF (d := .int (srcZ ns 3)) (ea_cons ev_var (ea_cons ev_int ea_nil)) ⟨ns, 3, rfl, h63, rfl⟩) ?_
    generalize srcZ ns 3 = z3
    refine q_set (EvN.g (en_ls (ea_cons ev_var (ea_cons ev_var (ea_cons ev_var ea_nil))))) ?_
    refine q_for L lotD (fun i => [.dat (.sq (ns.map D.int)), .dat (nI k), .dat (gD a), .dat (gD b), .dat (.lst (ord.map nI)), .dat (.int (itr i z3)), .dat (nI xy.1), .dat (nI xy.2), .dat (nI node), .any, .dat (.lst (L.map lotD)), .dat (.lst [nI xy.1, nI xy.2, nI node]), .any, .any]) (fun i mv => [.dat (.sq (ns.map D.int)), .dat (nI k), .dat (gD a), .dat (gD b), .dat (.lst (ord.map nI)), .dat (.int (itr i z3)), .dat (nI xy.1), .dat (nI xy.2), .dat (nI node), .any, .dat (.lst (L.map lotD)), .dat (.lst [nI xy.1, nI xy.2, nI node]), .dat (lotD mv), .any])
      ev_var (Wk.refl _) (js := [12]) (fun i x A' hx => gg_name (i := 12) (Γ := [.dat (.sq (ns.map D.int)), .dat (nI k), .dat (gD a), .dat (gD b), .dat (.lst (ord.map nI)), .dat (.int (itr i z3)), .dat (nI xy.1), .dat (nI xy.2), .dat (nI node), .any, .dat (.lst (L.map lotD)), .dat (.lst [nI xy.1, nI xy.2, nI node]), .any, .any]) (by simp)) (fun i mv A' De' hx hrt hnx hct hbk => ?_) ?_
    · refine q_no ((et_not (et_truB (ev_callF (d := .bl true) (ea_cons ev_var (ea_cons ev_var (ea_cons ev_var (ea_cons ev_var (ea_cons ev_var (ea_cons ev_var ea_nil)))))) ⟨a.1, a.2, b.1, b.2, k, xy.1, xy.2, node, mv, itr i z3, rfl, hLR mv (List.mem_of_getElem? hx), rfl⟩))).is rfl) ?_
      refine g_set (d := .int (itr (i + 1) z3)) (ev_fdiv ev_var ev_int ⟨by decide, by decide⟩) (by simp) (n_wk ?_ hnx)
      exact .same (.same (.same (.same (.same (.same (.same (.same (.same (.same (.same (.same (.any (.same .nil)))))))))))))
    refine q_if (et_test (ev_eqNil (r := ord) ev_var)) (fun e => ?_) fun e => ?_
    · exact g_retF ev_bl hr
    · have hne : ord ≠ [] := fun q => by rw [q] at e; cases e
      obtain ⟨mv, m1, m2⟩ := hside hne
      have lr := hLR mv (List.mem_of_getElem? m1)
      refine q_set (d := gD (b.1 + 1, sortE (partL b.1 b.2 node mv))) (ev_callF (ea_cons ev_var (ea_cons ev_var (ea_cons (ev_ixA (d := lotD mv) (ds := L.map lotD) (EvG.l ev_var) ev_int (atI_nat (j := 1) (by rw [List.getElem?_map, m1]; rfl))) ea_nil))) ⟨b.1, b.2, node, mv, rfl, okB, hlt, rfl⟩) ?_
      have okP : GOk (b.1 + 1) (sortE (partL b.1 b.2 node mv)) := by rw [← lr.eqD]; exact lr.edD.ok (by have := lr.fu.le; have := lr.fu.hx; omega)
      refine g_retF ((ev_isNA (ev_callF (d := rowD (firstCol (b.1 + 1) (sortE (partL b.1 b.2 node mv)) k)) (ea_cons (ixn (g := (b.1 + 1, sortE (partL b.1 b.2 node mv))) rfl) (ea_cons (ixe (g := (b.1 + 1, sortE (partL b.1 b.2 node mv))) rfl) (ea_cons ev_var ea_nil))) ⟨b.1 + 1, sortE (partL b.1 b.2 node mv), k, rfl, okP, crA.k1, crA.k6, rfl⟩)).is ?_) hr
      rw [m2]; rfl
end
end HD
end
section
set_option Elab.async false
set_option linter.all false
set_option maxRecDepth 100000
set_option maxHeartbeats 4000000
/-! CM5: graphs under new names. -/
namespace HD
open CM
section
variable {n : Nat} {o : List Nat} (ho : o.Perm (List.range n))
include ho
theorem o_len : o.length = n := by have := ho.length_eq; simpa using this
theorem o_nd : o.Nodup := ho.nodup_iff.mpr List.nodup_range
theorem o_at {v : Nat} (h : v < n) : o[v]? = some (o.getD v 0) := by
  rw [List.getD_eq_getElem?_getD, List.getElem?_eq_getElem (by rw [o_len ho]; exact h)]; rfl
theorem o_lt {v : Nat} (h : v < n) : o.getD v 0 < n := by
  have hm := List.mem_of_getElem? (o_at ho h)
  exact List.mem_range.mp (ho.mem_iff.mp hm)
theorem o_inj {u v : Nat} (hu : u < n) (hv : v < n) (e : o.getD u 0 = o.getD v 0) : u = v := by
  have h1 := o_at ho hu
  have h2 := o_at ho hv
  rw [e] at h1
  exact L2.nd_ix (o_nd ho) h1 h2
theorem o_sur {w : Nat} (h : w < n) : ∃ v, v < n ∧ o.getD v 0 = w := by
  have hm : w ∈ o := ho.mem_iff.mpr (List.mem_range.mpr h)
  obtain ⟨i, hi⟩ := List.getElem?_of_mem hm
  have hl := (List.getElem?_eq_some_iff.mp hi).1
  rw [o_len ho] at hl
  refine ⟨i, hl, ?_⟩
  rw [List.getD_eq_getElem?_getD, hi]; rfl
theorem o_inv : ∃ t : Nat → Nat, (∀ v, v < n → t (o.getD v 0) = v) ∧ ∀ w, w < n → t w < n ∧ o.getD (t w) 0 = w := by
  have : ∀ w, ∃ v, w < n → v < n ∧ o.getD v 0 = w := fun w => by
    by_cases h : w < n
    · obtain ⟨v, hv⟩ := o_sur ho h
      exact ⟨v, fun _ => hv⟩
    · exact ⟨0, fun q => absurd q h⟩
  refine ⟨fun w => Classical.choose (this w), fun v hv => ?_, fun w hw => Classical.choose_spec (this w) hw⟩
  have := Classical.choose_spec (this (o.getD v 0)) (o_lt ho hv)
  exact o_inj ho this.1 hv this.2
end
/-- an edge under new names -/
def ren (o : List Nat) (p : Pr) : Pr := norm (o.getD p.1 0, o.getD p.2 0)
theorem mapE_eq (E : List Pr) (o : List Nat) : mapE E o = sortE (E.map (ren o)) := rfl
theorem norm_or (a b : Nat) : norm (a, b) = (a, b) ∨ norm (a, b) = (b, a) := by unfold norm; split <;> simp
theorem norm_cmp {a b c d : Nat} (h : norm (a, b) = norm (c, d)) : (a = c ∧ b = d) ∨ (a = d ∧ b = c) := by
  rcases norm_or a b with e | e <;> rcases norm_or c d with e' | e' <;> rw [e, e'] at h <;> injection h with h1 h2 <;> omega
theorem mem_mapE {E : List Pr} {o : List Nat} {q : Pr} : q ∈ mapE E o ↔ ∃ p ∈ E, ren o p = q := by
  rw [mapE_eq, sortE_mem, List.mem_map]
section
variable {n k : Nat} {o : List Nat} {E : List Pr} (ho : o.Perm (List.range n)) (up : Up n E)
include ho up
theorem ren_lt {p : Pr} (hp : p ∈ E) : (ren o p).1 < (ren o p).2 ∧ (ren o p).2 < n := by
  obtain ⟨a, b⟩ := up p hp
  have h1 := o_lt ho (v := p.1) (by omega)
  have h2 := o_lt ho b
  have hne : o.getD p.1 0 ≠ o.getD p.2 0 := fun e => by have := o_inj ho (by omega) b e; omega
  refine ⟨norm_ord hne, ?_⟩
  unfold ren
  rcases norm_or (o.getD p.1 0) (o.getD p.2 0) with e | e <;> rw [e] <;> assumption
theorem ren_inj {p q : Pr} (hp : p ∈ E) (hq : q ∈ E) (e : ren o p = ren o q) : p = q := by
  obtain ⟨a, b⟩ := up p hp
  obtain ⟨a', b'⟩ := up q hq
  rcases norm_cmp e with ⟨h1, h2⟩ | ⟨h1, h2⟩
  · exact Prod.ext (o_inj ho (by omega) (by omega) h1) (o_inj ho b b' h2)
  · have e1 := o_inj ho (by omega : p.1 < n) b' h1
    have e2 := o_inj ho b (by omega : q.1 < n) h2
    omega
theorem up_map : Up n (mapE E o) := fun q hq => by
  obtain ⟨p, hp, rfl⟩ := mem_mapE.mp hq
  exact ren_lt ho up hp
theorem ok_map (hn : n ≤ 48) (nd : E.Nodup) (few : E.length ≤ 2000) : GOk n (mapE E o) where
  le := hn
  srt := sortE_srt _
  lt := up_map ho up
  nd := by
    rw [mapE_eq, sortE_nodup, List.Nodup, List.pairwise_map]
    exact List.Pairwise.imp_of_mem (fun {a b} ha hb hab e => hab (ren_inj ho up ha hb e)) nd
  few := by rw [mapE_eq, sortE_len, List.length_map]; exact few
theorem col_map : Col n (mapE E o) k → Col n E k := fun ⟨f, h1, h2⟩ =>
  ⟨fun v => f (o.getD v 0), fun v hv => h1 _ (o_lt ho hv), fun p hp e => by
    have h := h2 (ren o p) (mem_mapE.mpr ⟨p, hp, rfl⟩)
    unfold ren at h
    rcases norm_or (o.getD p.1 0) (o.getD p.2 0) with q | q <;> rw [q] at h
    · exact h e
    · exact h e.symm⟩
theorem col_less {p : Pr} (hp : p ∈ E) : Col n (less E p) k → Col n (less (mapE E o) (ren o p)) k := fun ⟨f, h1, h2⟩ => by
  obtain ⟨t, t1, t2⟩ := o_inv ho
  refine ⟨fun w => f (t w), fun w hw => h1 _ (t2 w hw).1, fun q hq e => ?_⟩
  obtain ⟨a, b⟩ := List.mem_filter.mp hq
  obtain ⟨r, hr, rfl⟩ := mem_mapE.mp a
  have hne : r ≠ p := by rintro rfl; simp at b
  have h := h2 r (List.mem_filter.mpr ⟨hr, decide_eq_true hne⟩)
  obtain ⟨c, d⟩ := up r hr
  unfold ren at e
  have z1 := t1 r.1 (by omega)
  have z2 := t1 r.2 d
  rcases norm_or (o.getD r.1 0) (o.getD r.2 0) with q | q <;> rw [q] at e <;> simp only [z1, z2] at e
  · exact h e
  · exact h e.symm
end
/-! ### degrees -/
def has (w : Nat) (p : Pr) : Bool := decide (p.1 = w ∨ p.2 = w)
theorem near_cnt (w : Nat) (E : List Pr) : (nearOf w E).length = E.countP (has w) := by
  induction E with
  | nil => rfl
  | cons p E ih =>
    unfold nearOf at ih ⊢
    rw [List.flatMap_cons, List.length_append, ih, List.countP_cons]
    unfold has
    by_cases h1 : p.1 = w
    · simp [h1]; omega
    · by_cases h2 : p.2 = w
      · simp [h1, h2]; omega
      · simp [h1, h2]
theorem deg_map {n : Nat} {o : List Nat} {E : List Pr} (ho : o.Perm (List.range n)) (up : Up n E) {v : Nat} (hv : v < n) : (nearOf (o.getD v 0) (mapE E o)).length = (nearOf v E).length := by
  rw [near_cnt, near_cnt, mapE_eq, (sortE_perm _).countP_eq, List.countP_map]
  apply List.countP_congr
  intro p hp
  obtain ⟨a, b⟩ := up p hp
  have e : has (o.getD v 0) (ren o p) = has v p := by
    unfold has
    rw [decide_eq_decide]
    unfold ren
    have i1 : o.getD p.1 0 = o.getD v 0 ↔ p.1 = v := ⟨fun h => o_inj ho (by omega) hv h, fun h => by rw [h]⟩
    have i2 : o.getD p.2 0 = o.getD v 0 ↔ p.2 = v := ⟨fun h => o_inj ho b hv h, fun h => by rw [h]⟩
    rcases norm_or (o.getD p.1 0) (o.getD p.2 0) with q | q <;> rw [q] <;> simp only [i1, i2]
    exact Or.comm
  show has (o.getD v 0) (ren o p) = true ↔ _
  rw [e]
/-! ### critical graphs -/
structure Crt (n : Nat) (E : List Pr) (k : Nat) : Prop where
  no : ¬ Col n E k
  yes : ∀ e ∈ E, Col n (less E e) k
  dg : ∀ v, v < n → 2 ≤ (nearOf v E).length ∧ (nearOf v E).length ≤ 10
theorem up_less {n : Nat} {E : List Pr} (up : Up n E) (e : Pr) : Up n (less E e) := fun p hp => up p (List.mem_filter.mp hp).1
theorem crt_map {n k : Nat} {o : List Nat} {E : List Pr} (ho : o.Perm (List.range n)) (up : Up n E) (c : Crt n E k) : Crt n (mapE E o) k where
  no := fun h => c.no (col_map ho up h)
  yes := fun e he => by
    obtain ⟨p, hp, rfl⟩ := mem_mapE.mp he
    exact col_less ho up hp (c.yes p hp)
  dg := fun w hw => by
    obtain ⟨v, hv, rfl⟩ := o_sur ho hw
    rw [deg_map ho up hv]
    exact c.dg v hv
def crtB (n : Nat) (E : List Pr) (k : Nat) : Bool := (firstCol n E k).isNone && (E.all fun e => (firstCol n (less E e) k).isSome) && (List.range n).all fun v => decide (2 ≤ (nearOf v E).length) && decide ((nearOf v E).length ≤ 10)
theorem crt_of {n k : Nat} {E : List Pr} (up : Up n E) (h : crtB n E k = true) : Crt n E k := by
  unfold crtB at h
  simp only [Bool.and_eq_true, List.all_eq_true, decide_eq_true_eq] at h
  obtain ⟨⟨a, b⟩, d⟩ := h
  refine ⟨(first_none up).mp (Option.isNone_iff_eq_none.mp a), fun e he => (first_iff (up_less up e)).mp (b e he), fun v hv => d v (List.mem_range.mpr hv)⟩
theorem crt_critB {n k : Nat} {E : List Pr} (up : Up n E) (c : Crt n E k) : critB n E k = true := by
  unfold critB bareB
  have h1 : ((List.range n).any fun v => decide ((nearOf v E).length = 0)) = false := by
    rw [List.any_eq_false]
    intro v hv
    have := (c.dg v (List.mem_range.mp hv)).1
    simp; intro q; rw [q] at this; simp at this
  have h2 : (firstCol n E k).isNone = true := Option.isNone_iff_eq_none.mpr ((first_none up).mpr c.no)
  have h3 : (E.all fun e => (firstCol n (less E e) k).isSome) = true := List.all_eq_true.mpr fun e he => (first_iff (up_less up e)).mpr (c.yes e he)
  rw [h1, h2, h3]; rfl
theorem clq_mem {n i : Nat} {p : Pr} : p ∈ clqS n i ↔ p.1 < i ∧ p.1 < p.2 ∧ p.2 < n := by
  unfold clqS
  rw [List.mem_flatMap]
  constructor
  · rintro ⟨u, hu, h⟩
    obtain ⟨j, hj, rfl⟩ := List.mem_map.mp h
    rw [List.mem_range] at hu hj
    exact ⟨hu, by show u < u + 1 + j; omega, by show u + 1 + j < n; omega⟩
  · rintro ⟨h1, h2, h3⟩
    exact ⟨p.1, List.mem_range.mpr h1, List.mem_map.mpr ⟨p.2 - (p.1 + 1), List.mem_range.mpr (by omega), Prod.ext rfl (by show p.1 + 1 + (p.2 - (p.1 + 1)) = p.2; omega)⟩⟩
theorem clq_map {n : Nat} {o : List Nat} (ho : o.Perm (List.range n)) (hs : Srt (clqE n)) (nd : (clqE n).Nodup) : mapE (clqE n) o = clqE n := by
  have up : Up n (clqE n) := fun p hp => (clq_mem.mp hp).2
  refine srt_uniq ?_ (sortE_srt _) hs
  refine (List.perm_ext_iff_of_nodup ?_ nd).mpr fun q => ?_
  · rw [mapE_eq, sortE_nodup, List.Nodup, List.pairwise_map]
    exact List.Pairwise.imp_of_mem (fun {a b} ha hb hab e => hab (ren_inj ho up ha hb e)) nd
  · constructor
    · intro h
      obtain ⟨p, hp, rfl⟩ := mem_mapE.mp h
      have := ren_lt ho up hp
      exact clq_mem.mpr ⟨by omega, this.1, this.2⟩
    · intro h
      obtain ⟨h1, h2, h3⟩ := clq_mem.mp h
      obtain ⟨u, hu, e1⟩ := o_sur ho h1
      obtain ⟨v, hv, e2⟩ := o_sur ho h3
      have hne : u ≠ v := fun z => by rw [z, e2] at e1; omega
      refine mem_mapE.mpr ⟨norm (u, v), clq_mem.mpr ?_, ?_⟩
      · have := norm_ord (p := (u, v)) hne
        refine ⟨?_, this, ?_⟩ <;> rcases norm_or u v with q | q <;> rw [q] <;> assumption
      · unfold ren
        rcases norm_or u v with z | z <;> rw [z]
        · simp only [e1, e2]; exact norm_lt h2
        · simp only [e1, e2]; rw [norm_gt (p := (q.2, q.1)) (by show ¬ q.2 < q.1; omega)]
end HD
end
section
set_option Elab.async false
set_option linter.all false
set_option maxRecDepth 100000
set_option maxHeartbeats 4000000
/-! CM6: two graphs fused. -/
namespace HD
open CM
def jf (n1 x y node : Nat) (mv : List Nat) (p : Pr) : Pr := if p.1 ≠ node ∧ p.2 ≠ node then (place n1 node p.1, place n1 node p.2) else if mv.contains (p.1 + p.2 - node) then (y, place n1 node (p.1 + p.2 - node)) else (x, place n1 node (p.1 + p.2 - node))
def pf (n2 node : Nat) (mv : List Nat) (p : Pr) : Pr := if (p.1 = node ∨ p.2 = node) ∧ mv.contains (p.1 + p.2 - node) = true then (p.1 + p.2 - node, n2) else p
theorem join_eq (n1 : Nat) (A : List Pr) (x y : Nat) (B : List Pr) (node : Nat) (mv : List Nat) : joinL n1 A x y B node mv = less A (norm (x, y)) ++ B.map (jf n1 x y node mv) := rfl
theorem part_eq (n2 : Nat) (B : List Pr) (node : Nat) (mv : List Nat) : partL n2 B node mv = B.map (pf n2 node mv) := rfl
structure Jn (n1 : Nat) (A : List Pr) (x y n2 : Nat) (B : List Pr) (node : Nat) (mv : List Nat) : Prop where
  okA : GOk n1 A
  okB : GOk n2 B
  hx : x < n1
  hy : y < n1
  ne : x ≠ y
  ed : norm (x, y) ∈ A
  lt : node < n2
  le : n1 + n2 ≤ 48
  few : A.length + B.length ≤ 2000
  mne : mv ≠ []
  mem : ∀ m ∈ mv, m < n2 ∧ m ∈ nearOf node B
  nd : mv.Nodup
  len : mv.length < (nearOf node B).length
theorem Jn.fu {n1 A x y n2 B node mv} (j : Jn n1 A x y n2 B node mv) : Fu n1 A x y n2 B node mv.reverse where
  ok := j.okA
  hx := j.hx
  hy := j.hy
  ne := j.ne
  ed := j.ed
  mv := ⟨j.okB, j.lt, fun h => j.mne (by simpa using h), fun m hm => j.mem m (List.mem_reverse.mp hm), (List.reverse_perm mv).nodup_iff.mpr j.nd, by rw [List.length_reverse]; exact j.len⟩
  le := j.le
def unpl (n1 node q : Nat) : Nat := if q - n1 < node then q - n1 else q - n1 + 1
theorem pl_ge {n1 node v : Nat} (h : v ≠ node) : n1 ≤ place n1 node v := by unfold place; split <;> omega
theorem pl_lt {n1 n2 node v : Nat} (h : v ≠ node) (h2 : node < n2) (h3 : v < n2) : place n1 node v < n1 + n2 - 1 := by unfold place; split <;> omega
theorem pl_mono {n1 node u v : Nat} (h : u < v) (hu : u ≠ node) (hv : v ≠ node) : place n1 node u < place n1 node v := by unfold place; split <;> split <;> omega
theorem un_pl {n1 node v : Nat} (h : v ≠ node) : unpl n1 node (place n1 node v) = v := by unfold unpl place; split <;> split <;> omega
theorem pl_un {n1 node q : Nat} (h : n1 ≤ q) : place n1 node (unpl n1 node q) = q ∧ unpl n1 node q ≠ node := by unfold unpl place; split <;> split <;> omega
theorem pl_inj {n1 node u v : Nat} (hu : u ≠ node) (hv : v ≠ node) (e : place n1 node u = place n1 node v) : u = v := by
  have := un_pl (n1 := n1) hu; rw [e, un_pl hv] at this; exact this.symm
section
variable {n1 : Nat} {A : List Pr} {x y n2 : Nat} {B : List Pr} {node : Nat} {mv : List Nat}
/-- where an edge of the second graph goes -/
theorem jf_or (n1 x y : Nat) (mv : List Nat) {p : Pr} (h : p.1 < p.2) : (p.1 ≠ node ∧ p.2 ≠ node ∧ jf n1 x y node mv p = (place n1 node p.1, place n1 node p.2) ∧ pf n2 node mv p = p) ∨
    (∃ w, w ≠ node ∧ norm (node, w) = p ∧ (p = (node, w) ∨ p = (w, node)) ∧ mv.contains w = true ∧ jf n1 x y node mv p = (y, place n1 node w) ∧ pf n2 node mv p = (w, n2)) ∨
    (∃ w, w ≠ node ∧ norm (node, w) = p ∧ (p = (node, w) ∨ p = (w, node)) ∧ mv.contains w = false ∧ jf n1 x y node mv p = (x, place n1 node w) ∧ pf n2 node mv p = p) := by
  by_cases e : p.1 ≠ node ∧ p.2 ≠ node
  · refine .inl ⟨e.1, e.2, by unfold jf; rw [if_pos e], ?_⟩
    unfold pf; rw [if_neg (fun q => q.1.elim e.1 e.2)]
  · refine .inr ?_
    obtain ⟨w, h1, h2, h3⟩ : ∃ w, w ≠ node ∧ p.1 + p.2 - node = w ∧ (p = (node, w) ∨ p = (w, node)) := by
      by_cases q : p.1 = node
      · exact ⟨p.2, by omega, by omega, .inl (Prod.ext q rfl)⟩
      · have q2 : p.2 = node := by omega
        exact ⟨p.1, by omega, by omega, .inr (Prod.ext rfl q2)⟩
    have hor : p.1 = node ∨ p.2 = node := by omega
    have hn : norm (node, w) = p := by
      rcases h3 with rfl | rfl
      · exact norm_lt h
      · rw [norm_gt (p := (node, w)) (by simp only at h ⊢; omega)]
    cases hc : mv.contains w with
    | true =>
      refine .inl ⟨w, h1, hn, h3, hc, ?_, ?_⟩
      · unfold jf; rw [if_neg e, h2, if_pos hc]
      · unfold pf; rw [h2, if_pos ⟨hor, hc⟩]
    | false =>
      refine .inr ⟨w, h1, hn, h3, hc, ?_, ?_⟩
      · unfold jf; rw [if_neg e, h2, if_neg (by rw [hc]; simp)]
      · unfold pf; rw [h2, if_neg (fun q => by rw [hc] at q; cases q.2)]
theorem imgs_at {w : Nat} (h : w < n2) : (imgs n1 x n2 node).getD w 0 = if w = node then x else place n1 node w := by
  unfold imgs
  rw [List.getD_eq_getElem?_getD, List.getElem?_map, List.getElem?_range h]
  show (if w < node then n1 + w else if w = node then x else n1 + w - 1) = _
  unfold place
  by_cases e1 : w < node
  · rw [if_pos e1, if_neg (by omega), if_neg (by omega)]; omega
  · by_cases e2 : w = node
    · rw [if_neg e1, if_pos e2, if_pos e2]
    · rw [if_neg e1, if_neg e2, if_neg e2, if_pos (by omega)]
theorem rng_at {w : Nat} (h : w < n2) : (List.range n2).getD w 0 = w := by
  rw [List.getD_eq_getElem?_getD, List.getElem?_range h]; rfl
theorem lot_con (mv : List Nat) (w : Nat) : (sortN mv.reverse).contains w = mv.contains w := by
  rw [List.contains_eq_mem, List.contains_eq_mem]
  rw [decide_eq_decide, (sortN_perm _).mem_iff, List.mem_reverse]
theorem fus_map (j : Jn n1 A x y n2 B node mv) : (fusL n1 A x y n2 B node mv.reverse).map norm = joinL n1 A x y B node mv := by
  rw [join_eq]
  unfold fusL
  rw [List.map_append]
  congr 1
  · exact (j.okA.less _).norm
  · unfold divE
    rw [List.map_map]
    apply List.map_congr_left
    intro p hp
    obtain ⟨u1, u2⟩ := j.okB.lt p hp
    have hx := j.hx
    have hy := j.hy
    simp only [Function.comp]
    rw [lot_con, lot_con, imgs_at u2, imgs_at (by omega : p.1 < n2)]
    rcases jf_or (n2 := n2) n1 x y mv (node := node) u1 with ⟨a, b, c, _⟩ | ⟨w, hw, _, hp', hc, c, _⟩ | ⟨w, hw, _, hp', hc, c, _⟩
    · rw [c, if_neg (fun q => a q.1), if_neg (fun q => b q.1), if_neg a, if_neg b]
      exact norm_lt (pl_mono u1 a b)
    · have hg := pl_ge (n1 := n1) hw
      rcases hp' with rfl | rfl
      · rw [if_pos ⟨rfl, hc⟩, if_neg hw, c]
        exact norm_lt (by show y < place n1 node w; omega)
      · rw [if_neg (fun q => hw q.1), if_pos ⟨rfl, hc⟩, if_neg hw, c]
        exact norm_lt (by show y < place n1 node w; omega)
    · have hg := pl_ge (n1 := n1) hw
      rcases hp' with rfl | rfl
      · rw [if_neg (fun q => by have := q.2; simp only at this; rw [hc] at this; cases this), if_neg (fun q => hw q.1), if_pos rfl, if_neg hw, c]
        exact norm_lt (by show x < place n1 node w; omega)
      · rw [if_neg (fun q => hw q.1), if_neg (fun q => by have := q.2; simp only at this; rw [hc] at this; cases this), if_neg hw, if_pos rfl, c]
        rw [norm_gt (p := (place n1 node w, x)) (by show ¬ place n1 node w < x; omega)]
theorem div_map (j : Jn n1 A x y n2 B node mv) : (divL n2 B node mv.reverse).map norm = partL n2 B node mv := by
  rw [part_eq]
  unfold divL divE
  rw [List.map_map]
  apply List.map_congr_left
  intro p hp
  obtain ⟨u1, u2⟩ := j.okB.lt p hp
  simp only [Function.comp]
  rw [lot_con, lot_con, rng_at u2, rng_at (by omega : p.1 < n2)]
  rcases jf_or (n2 := n2) n1 x y mv (node := node) u1 with ⟨a, b, _, c⟩ | ⟨w, hw, _, hp', hc, _, c⟩ | ⟨w, hw, _, hp', hc, _, c⟩
  · rw [c, if_neg (fun q => a q.1), if_neg (fun q => b q.1)]
    exact norm_lt u1
  · rcases hp' with rfl | rfl
    · rw [if_pos ⟨rfl, hc⟩, c]
      rw [norm_gt (p := (n2, w)) (by show ¬ n2 < w; simp only at u2; omega)]
    · rw [if_neg (fun q => hw q.1), if_pos ⟨rfl, hc⟩, c]
      rw [norm_gt (p := (n2, w)) (by show ¬ n2 < w; simp only at u1 u2; omega)]
  · rcases hp' with rfl | rfl
    · rw [if_neg (fun q => by have := q.2; simp only at this; rw [hc] at this; cases this), if_neg (fun q => hw q.1), c]
      exact norm_lt u1
    · rw [if_neg (fun q => hw q.1), if_neg (fun q => by have := q.2; simp only at this; rw [hc] at this; cases this), c]
      exact norm_lt u1
theorem ed_of {n : Nat} {F J : List Pr} (h : F.map norm = J) (up : Up n J) (nd : J.Nodup) (few : J.length ≤ 2000) : EdIn n F where
  lt := fun p hp => by
    have hm : norm p ∈ J := by rw [← h]; exact List.mem_map.mpr ⟨p, hp, rfl⟩
    obtain ⟨a, b⟩ := up _ hm
    have : norm p = p ∨ norm p = (p.2, p.1) := by unfold norm; split <;> simp
    rcases this with q | q <;> rw [q] at a b <;> (try simp only at a b) <;> omega
  nd := by rw [h]; exact nd
  few := by rw [← h, List.length_map] at few; exact few
theorem jf_up (j : Jn n1 A x y n2 B node mv) {p : Pr} (hp : p ∈ B) : n1 ≤ (jf n1 x y node mv p).2 ∧ (jf n1 x y node mv p).1 < (jf n1 x y node mv p).2 ∧ (jf n1 x y node mv p).2 < n1 + n2 - 1 := by
  obtain ⟨u1, u2⟩ := j.okB.lt p hp
  have hx := j.hx
  have hy := j.hy
  have hl := j.lt
  rcases jf_or (n2 := n2) n1 x y mv (node := node) u1 with ⟨a, b, c, _⟩ | ⟨w, hw, _, hp', hc, c, _⟩ | ⟨w, hw, _, hp', hc, c, _⟩
  · rw [c]; exact ⟨pl_ge b, pl_mono u1 a b, pl_lt b hl u2⟩
  · have hw2 : w < n2 := by rcases hp' with rfl | rfl <;> simp only at u1 u2 <;> omega
    rw [c]
    have := pl_ge (n1 := n1) hw
    exact ⟨this, by show y < place n1 node w; omega, pl_lt hw hl hw2⟩
  · have hw2 : w < n2 := by rcases hp' with rfl | rfl <;> simp only at u1 u2 <;> omega
    rw [c]
    have := pl_ge (n1 := n1) hw
    exact ⟨this, by show x < place n1 node w; omega, pl_lt hw hl hw2⟩
theorem jf_inj (j : Jn n1 A x y n2 B node mv) {p q : Pr} (hp : p ∈ B) (hq : q ∈ B) (e : jf n1 x y node mv p = jf n1 x y node mv q) : p = q := by
  have back : ∀ r ∈ B, (fun s : Pr => if n1 ≤ s.1 then (unpl n1 node s.1, unpl n1 node s.2) else norm (node, unpl n1 node s.2)) (jf n1 x y node mv r) = r := fun r hr => by
    obtain ⟨u1, u2⟩ := j.okB.lt r hr
    have hx := j.hx
    have hy := j.hy
    rcases jf_or (n2 := n2) n1 x y mv (node := node) u1 with ⟨a, b, c, _⟩ | ⟨w, hw, hn, _, _, c, _⟩ | ⟨w, hw, hn, _, _, c, _⟩
    · rw [c]; simp only; rw [if_pos (pl_ge a), un_pl a, un_pl b]
    · rw [c]; simp only; rw [if_neg (by omega), un_pl hw, hn]
    · rw [c]; simp only; rw [if_neg (by omega), un_pl hw, hn]
  have h1 := back p hp
  rw [e, back q hq] at h1
  exact h1.symm
theorem join_up (j : Jn n1 A x y n2 B node mv) : Up (n1 + n2 - 1) (joinL n1 A x y B node mv) := fun q hq => by
  rw [join_eq] at hq
  rcases List.mem_append.mp hq with h | h
  · obtain ⟨a, b⟩ := (j.okA.less _).lt q h
    have := j.lt
    exact ⟨a, by omega⟩
  · obtain ⟨p, hp, rfl⟩ := List.mem_map.mp h
    exact (jf_up j hp).2
theorem nd_map {f : Pr → Pr} : ∀ {l : List Pr}, l.Nodup → (∀ p ∈ l, ∀ q ∈ l, f p = f q → p = q) → (l.map f).Nodup := fun {l} h hi => by
  rw [List.Nodup, List.pairwise_map]
  exact List.Pairwise.imp_of_mem (fun {a b} ha hb hab e => hab (hi a ha b hb e)) h
theorem join_nd (j : Jn n1 A x y n2 B node mv) : (joinL n1 A x y B node mv).Nodup := by
  rw [join_eq]
  refine List.nodup_append.mpr ⟨(j.okA.less _).nd, nd_map j.okB.nd fun p hp q hq => jf_inj j hp hq, fun a ha b hb e => ?_⟩
  subst e
  obtain ⟨p, hp, rfl⟩ := List.mem_map.mp hb
  have := (jf_up j hp).1
  have := ((j.okA.less _).lt _ ha).2
  omega
theorem join_few (j : Jn n1 A x y n2 B node mv) : (joinL n1 A x y B node mv).length ≤ 2000 := by
  rw [join_eq, List.length_append, List.length_map]
  have := List.length_filter_le (fun p => decide (p ≠ norm (x, y))) A
  have := j.few
  unfold less; omega
theorem part_up (j : Jn n1 A x y n2 B node mv) : Up (n2 + 1) (partL n2 B node mv) := fun q hq => by
  rw [part_eq] at hq
  obtain ⟨p, hp, rfl⟩ := List.mem_map.mp hq
  obtain ⟨u1, u2⟩ := j.okB.lt p hp
  rcases jf_or (n2 := n2) n1 x y mv (node := node) u1 with ⟨a, b, _, c⟩ | ⟨w, hw, _, hp', hc, _, c⟩ | ⟨w, hw, _, hp', hc, _, c⟩
  · rw [c]; omega
  · have hw2 : w < n2 := by rcases hp' with rfl | rfl <;> simp only at u1 u2 <;> omega
    rw [c]; simp only; omega
  · rw [c]; omega
theorem part_nd (j : Jn n1 A x y n2 B node mv) : (partL n2 B node mv).Nodup := by
  rw [part_eq]
  have back : ∀ r ∈ B, (fun s : Pr => if s.2 = n2 then norm (node, s.1) else s) (pf n2 node mv r) = r := fun r hr => by
    obtain ⟨u1, u2⟩ := j.okB.lt r hr
    rcases jf_or (n2 := n2) n1 x y mv (node := node) u1 with ⟨a, b, _, c⟩ | ⟨w, hw, hn, _, _, _, c⟩ | ⟨w, hw, hn, _, _, _, c⟩
    · rw [c]; simp only; rw [if_neg (by omega)]
    · rw [c]; simp only; rw [if_pos trivial, hn]
    · rw [c]; simp only; rw [if_neg (by omega)]
  refine nd_map j.okB.nd fun p hp q hq e => ?_
  have h1 := back p hp
  rw [e, back q hq] at h1
  exact h1.symm
theorem part_few (j : Jn n1 A x y n2 B node mv) : (partL n2 B node mv).length ≤ 2000 := by
  rw [part_eq, List.length_map]; exact j.okB.few
theorem join_edF (j : Jn n1 A x y n2 B node mv) : EdIn (n1 + n2 - 1) (fusL n1 A x y n2 B node mv.reverse) := ed_of (fus_map j) (join_up j) (join_nd j) (join_few j)
theorem part_edD (j : Jn n1 A x y n2 B node mv) : EdIn (n2 + 1) (divL n2 B node mv.reverse) := ed_of (div_map j) (part_up j) (part_nd j) (part_few j)
theorem okJ (j : Jn n1 A x y n2 B node mv) : GOk (n1 + n2 - 1) (sortE (joinL n1 A x y B node mv)) := by
  rw [← fus_map j]
  exact (join_edF j).ok (by have := j.le; omega)
theorem okP (j : Jn n1 A x y n2 B node mv) : GOk (n2 + 1) (sortE (partL n2 B node mv)) := by
  rw [← div_map j]
  exact (part_edD j).ok (by have := j.le; have := j.hx; omega)
end
end HD
end
section
set_option Elab.async false
set_option linter.all false
set_option maxRecDepth 100000
set_option maxHeartbeats 4000000
/-! CM7: colours of two graphs fused. -/
namespace HD
open CM
theorem swp_lt {a b c k : Nat} (ha : a < k) (hb : b < k) (hc : c < k) : swp a b c < k := by unfold swp; split <;> (try split) <;> assumption
theorem swp_l (a b : Nat) : swp a b a = b := by unfold swp; rw [if_pos rfl]
theorem swp_o {a b c : Nat} (h1 : c ≠ a) (h2 : c ≠ b) : swp a b c = c := by unfold swp; rw [if_neg h1, if_neg h2]
/-- colours renamed so that two of them are as wanted -/
theorem two {a b s t k : Nat} (hab : a ≠ b) (hst : s ≠ t) (ha : a < k) (hb : b < k) (hs : s < k) (ht : t < k) : ∃ r : Nat → Nat, (∀ u v, r u = r v → u = v) ∧ (∀ v, v < k → r v < k) ∧ r a = s ∧ r b = t := by
  have h1 : swp a s b ≠ s := fun e => hab (swp_inj (e.trans (swp_l a s).symm)).symm
  refine ⟨fun v => swp (swp a s b) t (swp a s v), fun u v e => swp_inj (swp_inj e), fun v hv => swp_lt (swp_lt ha hs hb) ht (swp_lt ha hs hv), ?_, ?_⟩
  · show swp (swp a s b) t (swp a s a) = s
    rw [swp_l, swp_o (fun e => h1 e.symm) hst]
  · show swp (swp a s b) t (swp a s b) = t
    rw [swp_l]
theorem mem_less {E : List Pr} {e q : Pr} : q ∈ less E e ↔ q ∈ E ∧ q ≠ e := by
  unfold less; rw [List.mem_filter, decide_eq_true_eq]
section
variable {n1 : Nat} {A : List Pr} {x y n2 : Nat} {B : List Pr} {node : Nat} {mv : List Nat} {k : Nat}
theorem mem_J {q : Pr} : q ∈ sortE (joinL n1 A x y B node mv) ↔ (q ∈ A ∧ q ≠ norm (x, y)) ∨ ∃ p ∈ B, jf n1 x y node mv p = q := by
  rw [sortE_mem, join_eq, List.mem_append, mem_less, List.mem_map]
theorem mem_P {q : Pr} : q ∈ sortE (partL n2 B node mv) ↔ ∃ p ∈ B, pf n2 node mv p = q := by
  rw [sortE_mem, part_eq, List.mem_map]
/-- colours of the fused graph that agree at x and y give colours of the second -/
theorem colB (j : Jn n1 A x y n2 B node mv) (f : Nat → Nat) (h1 : ∀ v, v < n1 + n2 - 1 → f v < k) (B' : List Pr) (hB : ∀ p ∈ B', p ∈ B ∧ f (jf n1 x y node mv p).1 ≠ f (jf n1 x y node mv p).2) (e : f x = f y) : Col n2 B' k := by
  have hx := j.hx
  have hl := j.lt
  refine ⟨fun v => if v = node then f x else f (place n1 node v), fun v hv => ?_, fun p hp => ?_⟩
  · show (if v = node then f x else f (place n1 node v)) < k
    split
    · exact h1 _ (by omega)
    · rename_i h; exact h1 _ (pl_lt h hl hv)
  · obtain ⟨hpB, h2⟩ := hB p hp
    obtain ⟨u1, u2⟩ := j.okB.lt p hpB
    show (if p.1 = node then f x else f (place n1 node p.1)) ≠ (if p.2 = node then f x else f (place n1 node p.2))
    rcases jf_or (n2 := n2) n1 x y mv (node := node) u1 with ⟨a, b, c, _⟩ | ⟨w, hw, _, hp', hc, c, _⟩ | ⟨w, hw, _, hp', hc, c, _⟩
    · rw [c] at h2; rw [if_neg a, if_neg b]; exact h2
    · rw [c] at h2
      rcases hp' with rfl | rfl
      · rw [if_pos rfl, if_neg hw, e]; exact h2
      · rw [if_neg hw, if_pos rfl, e]; exact fun q => h2 q.symm
    · rw [c] at h2
      rcases hp' with rfl | rfl
      · rw [if_pos rfl, if_neg hw]; exact h2
      · rw [if_neg hw, if_pos rfl]; exact fun q => h2 q.symm
theorem colP (j : Jn n1 A x y n2 B node mv) (f : Nat → Nat) (h1 : ∀ v, v < n1 + n2 - 1 → f v < k) (hB : ∀ p ∈ B, f (jf n1 x y node mv p).1 ≠ f (jf n1 x y node mv p).2) : Col (n2 + 1) (sortE (partL n2 B node mv)) k := by
  have hx := j.hx
  have hy := j.hy
  have hl := j.lt
  refine ⟨fun v => if v = node then f x else if v = n2 then f y else f (place n1 node v), fun v hv => ?_, fun q hq => ?_⟩
  · show (if v = node then f x else if v = n2 then f y else f (place n1 node v)) < k
    split
    · exact h1 _ (by omega)
    · split
      · exact h1 _ (by omega)
      · rename_i h _; exact h1 _ (pl_lt h hl (by omega))
  · obtain ⟨p, hp, rfl⟩ := mem_P.mp hq
    have h2 := hB p hp
    obtain ⟨u1, u2⟩ := j.okB.lt p hp
    have g0 : ∀ v, v ≠ node → v < n2 → (if v = node then f x else if v = n2 then f y else f (place n1 node v)) = f (place n1 node v) := fun v a b => by rw [if_neg a, if_neg (by omega)]
    show (if (pf n2 node mv p).1 = node then f x else if (pf n2 node mv p).1 = n2 then f y else f (place n1 node (pf n2 node mv p).1)) ≠ (if (pf n2 node mv p).2 = node then f x else if (pf n2 node mv p).2 = n2 then f y else f (place n1 node (pf n2 node mv p).2))
    rcases jf_or (n2 := n2) n1 x y mv (node := node) u1 with ⟨a, b, c, d⟩ | ⟨w, hw, _, hp', hc, c, d⟩ | ⟨w, hw, _, hp', hc, c, d⟩
    · rw [c] at h2; rw [d, g0 _ a (by omega), g0 _ b u2]; exact h2
    · have hw2 : w < n2 := by rcases hp' with rfl | rfl <;> simp only at u1 u2 <;> omega
      rw [c] at h2; rw [d]; simp only
      rw [g0 w hw hw2, if_neg (by omega), if_pos trivial]; exact fun q => h2 q.symm
    · rw [c] at h2; rw [d]
      rcases hp' with rfl | rfl
      · simp only at u1 u2 ⊢
        rw [if_pos trivial, g0 w hw u2]; exact h2
      · simp only at u1 u2 ⊢
        rw [if_pos trivial, g0 w hw (by omega)]; exact fun q => h2 q.symm
def glue (n1 node : Nat) (f g : Nat → Nat) (v : Nat) : Nat := if v < n1 then f v else g (unpl n1 node v)
theorem glue_lt (j : Jn n1 A x y n2 B node mv) {f g : Nat → Nat} (h1 : ∀ v, v < n1 → f v < k) (h2 : ∀ v, v < n2 → g v < k) : ∀ v, v < n1 + n2 - 1 → glue n1 node f g v < k := fun v hv => by
  unfold glue
  split
  · exact h1 v (by assumption)
  · refine h2 _ ?_
    unfold unpl; split <;> omega
theorem glue_pl {f g : Nat → Nat} {v : Nat} (h : v ≠ node) : glue n1 node f g (place n1 node v) = g v := by
  unfold glue
  rw [if_neg (by have := pl_ge (n1 := n1) h; omega), un_pl h]
theorem glue_lo {f g : Nat → Nat} {v : Nat} (h : v < n1) : glue n1 node f g v = f v := if_pos h
theorem no_J (j : Jn n1 A x y n2 B node mv) (cA : ¬ Col n1 A k) (cB : ¬ Col n2 B k) : ¬ Col (n1 + n2 - 1) (sortE (joinL n1 A x y B node mv)) k := fun ⟨f, h1, h2⟩ => by
  have hl := j.lt
  by_cases e : f x = f y
  · exact cB (colB j f h1 B (fun p hp => ⟨hp, h2 _ (mem_J.mpr (.inr ⟨p, hp, rfl⟩))⟩) e)
  · refine cA ⟨f, fun v hv => h1 v (by omega), fun q hq => ?_⟩
    by_cases hq2 : q = norm (x, y)
    · rw [hq2]
      rcases norm_or x y with z | z <;> rw [z]
      · exact e
      · exact fun q => e q.symm
    · exact h2 q (mem_J.mpr (.inl ⟨hq, hq2⟩))
/-- an edge of the second graph left out: colours are found -/
theorem less_B (j : Jn n1 A x y n2 B node mv) (cA : ¬ Col n1 A k) (yA : ∀ e ∈ A, Col n1 (less A e) k) (yB : ∀ e ∈ B, Col n2 (less B e) k) {b : Pr} (hb : b ∈ B) : Col (n1 + n2 - 1) (less (sortE (joinL n1 A x y B node mv)) (jf n1 x y node mv b)) k := by
  obtain ⟨f, f1, f2⟩ := yA _ j.ed
  obtain ⟨g, g1, g2⟩ := yB b hb
  have hx := j.hx
  have hy := j.hy
  have hl := j.lt
  have e : f x = f y := by
    refine Classical.byContradiction fun e => cA ⟨f, f1, fun q hq => ?_⟩
    by_cases hq2 : q = norm (x, y)
    · rw [hq2]
      rcases norm_or x y with z | z <;> rw [z]
      · exact e
      · exact fun q => e q.symm
    · exact f2 q (mem_less.mpr ⟨hq, hq2⟩)
  let r := swp (g node) (f x)
  refine ⟨glue n1 node f fun v => r (g v), glue_lt j f1 fun v hv => swp_lt (g1 _ hl) (f1 _ hx) (g1 v hv), fun q hq => ?_⟩
  obtain ⟨hq1, hq2⟩ := mem_less.mp hq
  rcases mem_J.mp hq1 with ⟨h, h'⟩ | ⟨p, hp, rfl⟩
  · obtain ⟨u1, u2⟩ := j.okA.lt q h
    rw [glue_lo (by omega), glue_lo u2]
    exact f2 q (mem_less.mpr ⟨h, h'⟩)
  · obtain ⟨u1, u2⟩ := j.okB.lt p hp
    have hne : p ≠ b := fun z => hq2 (by rw [z])
    have h2 := g2 p (mem_less.mpr ⟨hp, hne⟩)
    have rn : r (g node) = f x := swp_l _ _
    rcases jf_or (n2 := n2) n1 x y mv (node := node) u1 with ⟨a, b, c, _⟩ | ⟨w, hw, _, hp', hc, c, _⟩ | ⟨w, hw, _, hp', hc, c, _⟩
    · rw [c]; simp only
      rw [glue_pl a, glue_pl b]
      exact fun z => h2 (swp_inj z)
    · rw [c]; simp only
      rw [glue_pl hw, glue_lo hy, ← e, ← rn]
      rcases hp' with rfl | rfl
      · exact fun z => h2 (swp_inj z)
      · exact fun z => h2 (swp_inj z.symm)
    · rw [c]; simp only
      rw [glue_pl hw, glue_lo hx, ← rn]
      rcases hp' with rfl | rfl
      · exact fun z => h2 (swp_inj z)
      · exact fun z => h2 (swp_inj z.symm)
/-- an edge of the first graph left out: colours are found if the divided graph has some -/
theorem less_A (j : Jn n1 A x y n2 B node mv) (cA : ¬ Col n1 A k) (yA : ∀ e ∈ A, Col n1 (less A e) k) (cB : ¬ Col n2 B k) (cP : Col (n2 + 1) (sortE (partL n2 B node mv)) k) {e : Pr} (he : e ∈ A) (he2 : e ≠ norm (x, y)) : Col (n1 + n2 - 1) (less (sortE (joinL n1 A x y B node mv)) e) k := by
  obtain ⟨f, f1, f2⟩ := yA e he
  obtain ⟨g, g1, g2⟩ := cP
  have hx := j.hx
  have hy := j.hy
  have hl := j.lt
  have fxy : f x ≠ f y := by
    have := f2 (norm (x, y)) (mem_less.mpr ⟨j.ed, fun z => he2 z.symm⟩)
    rcases norm_or x y with z | z <;> rw [z] at this
    · exact this
    · exact fun q => this q.symm
  have gn : g node ≠ g n2 := fun z => by
    refine cB ⟨g, fun v hv => g1 v (by omega), fun p hp => ?_⟩
    obtain ⟨u1, u2⟩ := j.okB.lt p hp
    have h2 := g2 _ (mem_P.mpr ⟨p, hp, rfl⟩)
    rcases jf_or (n2 := n2) n1 x y mv (node := node) u1 with ⟨_, _, _, d⟩ | ⟨w, hw, _, hp', hc, _, d⟩ | ⟨w, hw, _, hp', hc, _, d⟩
    · rw [d] at h2; exact h2
    · rw [d] at h2; simp only at h2
      rcases hp' with rfl | rfl
      · show g node ≠ g w
        rw [z]; exact fun q => h2 q.symm
      · show g w ≠ g node
        rw [z]; exact h2
    · rw [d] at h2; exact h2
  obtain ⟨r, r1, r2, r3, r4⟩ := two gn fxy (g1 _ (by omega)) (g1 _ (by omega)) (f1 _ hx) (f1 _ hy)
  refine ⟨glue n1 node f fun v => r (g v), glue_lt j f1 fun v hv => r2 _ (g1 v (by omega)), fun q hq => ?_⟩
  obtain ⟨hq1, hq2⟩ := mem_less.mp hq
  rcases mem_J.mp hq1 with ⟨h, h'⟩ | ⟨p, hp, rfl⟩
  · obtain ⟨u1, u2⟩ := j.okA.lt q h
    rw [glue_lo (by omega), glue_lo u2]
    exact f2 q (mem_less.mpr ⟨h, hq2⟩)
  · obtain ⟨u1, u2⟩ := j.okB.lt p hp
    have h2 := g2 _ (mem_P.mpr ⟨p, hp, rfl⟩)
    rcases jf_or (n2 := n2) n1 x y mv (node := node) u1 with ⟨a, b, c, d⟩ | ⟨w, hw, _, hp', hc, c, d⟩ | ⟨w, hw, _, hp', hc, c, d⟩
    · rw [d] at h2
      rw [c]; simp only
      rw [glue_pl a, glue_pl b]
      exact fun z => h2 (r1 _ _ z)
    · rw [d] at h2; simp only at h2
      rw [c]; simp only
      rw [glue_pl hw, glue_lo hy, ← r4]
      exact fun z => h2 (r1 _ _ z.symm)
    · rw [d] at h2
      rw [c]; simp only
      rw [glue_pl hw, glue_lo hx, ← r3]
      rcases hp' with rfl | rfl
      · exact fun z => h2 (r1 _ _ z)
      · exact fun z => h2 (r1 _ _ z.symm)
/-- and only then -/
theorem less_P (j : Jn n1 A x y n2 B node mv) (cB : ¬ Col n2 B k) {e : Pr} (he : e ∈ A) (hc : Col (n1 + n2 - 1) (less (sortE (joinL n1 A x y B node mv)) e) k) : Col (n2 + 1) (sortE (partL n2 B node mv)) k := by
  obtain ⟨f, f1, f2⟩ := hc
  refine colP j f f1 fun p hp => f2 _ (mem_less.mpr ⟨mem_J.mpr (.inr ⟨p, hp, rfl⟩), fun z => ?_⟩)
  have h1 := (jf_up j hp).1
  rw [z] at h1
  have := (j.okA.lt e he).2
  omega
theorem two_at {w : Nat} {E : List Pr} (h : 2 ≤ (nearOf w E).length) (nd : E.Nodup) (a : Pr) : ∃ e ∈ E, e ≠ a ∧ (e.1 = w ∨ e.2 = w) := by
  rw [near_cnt, List.countP_eq_length_filter] at h
  refine Classical.byContradiction fun q => ?_
  have := nodup_le (I := E.filter (has w)) (m := [a]) (nd.filter _) fun e he => by
    obtain ⟨h1, h2⟩ := List.mem_filter.mp he
    refine Classical.byContradiction fun z => q ⟨e, h1, fun z' => z (by rw [z']; simp), ?_⟩
    unfold has at h2
    exact of_decide_eq_true h2
  simp at this
  omega
theorem near_ne {w : Nat} {E : List Pr} {e : Pr} (he : e ∈ E) (h : e.1 = w ∨ e.2 = w) : (nearOf w E).length ≠ 0 := by
  rw [near_cnt]
  have : 0 < E.countP (has w) := List.countP_pos_iff.mpr ⟨e, he, by unfold has; exact decide_eq_true h⟩
  omega
theorem bare_J (j : Jn n1 A x y n2 B node mv) (dA : ∀ v, v < n1 → 2 ≤ (nearOf v A).length) (dB : ∀ v, v < n2 → 2 ≤ (nearOf v B).length) : bareB (n1 + n2 - 1) (sortE (joinL n1 A x y B node mv)) = false := by
  unfold bareB
  rw [List.any_eq_false]
  intro v hv
  rw [List.mem_range] at hv
  have : (nearOf v (sortE (joinL n1 A x y B node mv))).length ≠ 0 := by
    by_cases h : v < n1
    · obtain ⟨e, he, h1, h2⟩ := two_at (dA v h) j.okA.nd (norm (x, y))
      exact near_ne (mem_J.mpr (.inl ⟨he, h1⟩)) h2
    · obtain ⟨q1, q2⟩ := pl_un (n1 := n1) (node := node) (q := v) (by omega)
      have hw : unpl n1 node v < n2 := by have := j.lt; unfold unpl; split <;> omega
      generalize unpl n1 node v = w at *
      obtain ⟨p, hp, _, h2⟩ := two_at (dB w hw) j.okB.nd (0, 0)
      refine near_ne (e := jf n1 x y node mv p) (mem_J.mpr (.inr ⟨p, hp, rfl⟩)) ?_
      obtain ⟨u1, u2⟩ := j.okB.lt p hp
      rcases jf_or (n2 := n2) n1 x y mv (node := node) u1 with ⟨a, b, c, d⟩ | ⟨w', hw', _, hp', hc, c, d⟩ | ⟨w', hw', _, hp', hc, c, d⟩
      · rw [c]; simp only
        rcases h2 with rfl | rfl
        · exact .inl q1
        · exact .inr q1
      · rw [c]; simp only
        have : w' = w := by rcases hp' with rfl | rfl <;> rcases h2 with h2 | h2 <;> simp only at h2 <;> first | exact h2 | exact absurd h2.symm q2
        rw [this]; exact .inr q1
      · rw [c]; simp only
        have : w' = w := by rcases hp' with rfl | rfl <;> rcases h2 with h2 | h2 <;> simp only at h2 <;> first | exact h2 | exact absurd h2.symm q2
        rw [this]; exact .inr q1
  simpa using this
/-- critical just when the divided graph has colours -/
theorem crit_J (j : Jn n1 A x y n2 B node mv) (cA : Crt n1 A k) (cB : Crt n2 B k) : critB (n1 + n2 - 1) (sortE (joinL n1 A x y B node mv)) k = (firstCol (n2 + 1) (sortE (partL n2 B node mv)) k).isSome := by
  have oJ := okJ j
  have oP := okP j
  have hno := no_J j cA.no cB.no
  unfold critB
  rw [bare_J j (fun v hv => (cA.dg v hv).1) (fun v hv => (cB.dg v hv).1), (first_none oJ.lt).mpr hno]
  show (true && (true && _)) = _
  rw [Bool.true_and, Bool.true_and, Bool.eq_iff_iff, List.all_eq_true, first_iff oP.lt]
  constructor
  · intro h
    obtain ⟨e, he, h1, _⟩ := two_at (cA.dg x j.hx).1 j.okA.nd (norm (x, y))
    exact less_P j cB.no he ((first_iff (up_less oJ.lt e)).mp (h e (mem_J.mpr (.inl ⟨he, h1⟩))))
  · intro h e he
    refine (first_iff (up_less oJ.lt e)).mpr ?_
    rcases mem_J.mp he with ⟨a, b⟩ | ⟨p, hp, rfl⟩
    · exact less_A j cA.no cA.yes cB.no h a b
    · exact less_B j cA.no cA.yes cB.yes hp
end
end HD
end
section
set_option Elab.async false
set_option linter.all false
set_option maxRecDepth 100000
set_option maxHeartbeats 4000000
/-! CM8: the counts of the fused and the divided graph. -/
namespace HD
open CM
theorem low_cut {n1 i : Nat} {E : List Pr} (h : i < n1) : lowOf i E = lowOf i (E.filter fun q => decide (q.2 < n1)) := by
  unfold lowOf
  rw [List.filterMap_filter]
  congr 1
  funext p
  by_cases e : p.2 = i
  · have e1 : decide (p.2 < n1) = true := decide_eq_true (by omega)
    rw [if_pos e]; simp only [e1, if_true]
  · rw [if_neg e]; simp
theorem less_out {E : List Pr} {e : Pr} (h : e ∉ E) : less E e = E := List.filter_eq_self.mpr fun q hq => decide_eq_true (fun z => h (z ▸ hq))
theorem less_twice (E : List Pr) (p : Pr) : less (less E p) p = less E p := less_out fun h => (mem_less.mp h).2 rfl
section
variable {n1 : Nat} {A : List Pr} {x y n2 : Nat} {B : List Pr} {node : Nat} {mv : List Nat} {k : Nat}
theorem cut_J (j : Jn n1 A x y n2 B node mv) : (sortE (joinL n1 A x y B node mv)).filter (fun q => decide (q.2 < n1)) = less A (norm (x, y)) := by
  refine srt_uniq (((sortE_perm _).filter _).trans ?_) ((sortE_srt _).filter _) (j.okA.less _).srt
  rw [join_eq, List.filter_append]
  have e1 : (less A (norm (x, y))).filter (fun q => decide (q.2 < n1)) = less A (norm (x, y)) := List.filter_eq_self.mpr fun q hq => decide_eq_true ((j.okA.less _).lt q hq).2
  have e2 : (B.map (jf n1 x y node mv)).filter (fun q => decide (q.2 < n1)) = [] := List.filter_eq_nil_iff.mpr fun q hq => by
    obtain ⟨p, hp, rfl⟩ := List.mem_map.mp hq
    have := (jf_up j hp).1
    simp; exact this
  rw [e1, e2, List.append_nil]
theorem low_J (j : Jn n1 A x y n2 B node mv) {i : Nat} (h : i < n1) : lowOf i (sortE (joinL n1 A x y B node mv)) = lowOf i (less A (norm (x, y))) := by
  rw [low_cut h, cut_J j]
theorem low_Je (j : Jn n1 A x y n2 B node mv) (e : Pr) {i : Nat} (h : i < n1) : lowOf i (less (sortE (joinL n1 A x y B node mv)) e) = lowOf i (less (less A (norm (x, y))) e) := by
  rw [low_cut h]
  have : (less (sortE (joinL n1 A x y B node mv)) e).filter (fun q => decide (q.2 < n1)) = less (less A (norm (x, y))) e := by
    rw [← cut_J j]
    unfold less
    rw [List.filter_filter, List.filter_filter]
    apply List.filter_congr
    intro q _
    exact Bool.and_comm _ _
  rw [this]
end
theorem near_nd {n : Nat} {w : Nat} : ∀ {E : List Pr}, Up n E → E.Nodup → (nearOf w E).Nodup
  | [], _, _ => List.nodup_nil
  | p :: E, up, nd => by
    have nd' := List.nodup_cons.mp nd
    have ih := near_nd (w := w) (E := E) (fun q hq => up q (List.mem_cons_of_mem _ hq)) nd'.2
    have u := up p (List.mem_cons_self ..)
    show (List.flatMap _ (p :: E)).Nodup
    rw [List.flatMap_cons]
    have ih' : (E.flatMap fun p => if p.1 = w then [p.2] else if p.2 = w then [p.1] else []).Nodup := ih
    by_cases h1 : p.1 = w
    · rw [if_pos h1]
      refine List.nodup_cons.mpr ⟨fun h => ?_, ih'⟩
      obtain ⟨q, hq, z⟩ := mem_nearOf.mp (show p.2 ∈ nearOf w E from h)
      have u' := up q (List.mem_cons_of_mem _ hq)
      rcases z with ⟨a, b⟩ | ⟨a, b, c⟩
      · exact nd'.1 ((Prod.ext (by omega) (by omega) : q = p) ▸ hq)
      · omega
    · rw [if_neg h1]
      by_cases h2 : p.2 = w
      · rw [if_pos h2]
        refine List.nodup_cons.mpr ⟨fun h => ?_, ih'⟩
        obtain ⟨q, hq, z⟩ := mem_nearOf.mp (show p.1 ∈ nearOf w E from h)
        have u' := up q (List.mem_cons_of_mem _ hq)
        rcases z with ⟨a, b⟩ | ⟨a, b, c⟩
        · omega
        · exact nd'.1 ((Prod.ext (by omega) (by omega) : q = p) ▸ hq)
      · rw [if_neg h2]; exact ih'
def pre (E0 : List Pr) (k m b : Nat) : Nat := ((List.range m).map fun j => (lev (lower m E0) k j).length).sum + (lev (lower m E0) k m).length * b
theorem pre5 : ∀ p ∈ clqE 5, ∀ e ∈ clqE 5, pre (less (less (clqE 5) p) e) 4 5 341 ≤ 5000 := by decide +kernel
theorem pre4a : ∀ p ∈ clqE 4, ∀ e ∈ clqE 4, pre (less (less (clqE 4) p) e) 3 4 1152 ≤ 5000 := by decide +kernel
theorem pre4b : ∀ p ∈ clqE 4, pre (less (less (clqE 4) p) p) 3 4 1728 ≤ 5000 := by decide +kernel
section
variable {x y n2 : Nat} {B : List Pr} {node : Nat} {mv : List Nat} {k : Nat}
theorem bd6 (E : List Pr) : Bd ((List.range 4).map fun j => cI 4 E (5 + j)) ≤ 341 := by
  rw [csM_eq]
  have h := mem_masks ((List.range 4).map fun j => decide (lowOf (5 + j) E = []))
  rw [List.length_map, List.length_range] at h
  exact mskC _ h
theorem cnt6 (j : Jn 5 (clqE 5) x y 5 B node mv) : cnt 9 (sortE (joinL 5 (clqE 5) x y B node mv)) 4 ≤ 5000 ∧ ∀ e, cnt 9 (less (sortE (joinL 5 (clqE 5) x y B node mv)) e) 4 ≤ 5000 := by
  have up : Up 9 (sortE (joinL 5 (clqE 5) x y B node mv)) := (okJ j).lt
  have hp := j.ed
  constructor
  · refine Nat.le_trans (cnt_pre (m := 5) (f := 4) (E0 := less (less (clqE 5) (norm (x, y))) (norm (x, y))) up rfl (fun i hi => ?_) (bd6 _)) (pre5 _ hp _ hp)
    rw [less_twice, low_J j hi]
  · intro e
    by_cases he : e ∈ clqE 5
    · refine Nat.le_trans (cnt_pre (m := 5) (f := 4) (E0 := less (less (clqE 5) (norm (x, y))) e) (up_less up e) rfl (fun i hi => ?_) (bd6 _)) (pre5 _ hp _ he)
      rw [low_Je j e hi]
    · refine Nat.le_trans (cnt_pre (m := 5) (f := 4) (E0 := less (less (clqE 5) (norm (x, y))) (norm (x, y))) (up_less up e) rfl (fun i hi => ?_) (bd6 _)) (pre5 _ hp _ hp)
      rw [low_Je j e hi, less_twice, less_out fun h => he (mem_less.mp h).1]
theorem bd7 {E : List Pr} : (6 ≤ nF ((List.range 8).map fun j => decide (lowOf (4 + j) E = [])) → Bd ((List.range 8).map fun j => cI 3 E (4 + j)) ≤ 1152) ∧ (5 ≤ nF ((List.range 8).map fun j => decide (lowOf (4 + j) E = [])) → Bd ((List.range 8).map fun j => cI 3 E (4 + j)) ≤ 1728) := by
  rw [csM_eq]
  have h := mem_masks ((List.range 8).map fun j => decide (lowOf (4 + j) E = []))
  rw [List.length_map, List.length_range] at h
  exact mskB _ h
theorem low_ne {E : List Pr} {q : Pr} (h : q ∈ E) : lowOf q.2 E ≠ [] := fun z => by
  have := mem_lowOf.mpr (show (q.1, q.2) ∈ E from h)
  rw [z] at this; cases this
/-- a neighbour of the node that is split keeps a lower neighbour -/
theorem near_low {n1 : Nat} {A : List Pr} (j : Jn n1 A x y n2 B node mv) {w : Nat} (h : w ∈ nearOf node B) : w ≠ node ∧ w < n2 ∧ ∃ q ∈ sortE (joinL n1 A x y B node mv), q.2 = place n1 node w := by
  obtain ⟨p, hp, z⟩ := mem_nearOf.mp h
  obtain ⟨u1, u2⟩ := j.okB.lt p hp
  have hw : w ≠ node := by omega
  refine ⟨hw, by omega, jf n1 x y node mv p, mem_J.mpr (.inr ⟨p, hp, rfl⟩), ?_⟩
  rcases jf_or (n2 := n2) n1 x y mv (node := node) u1 with ⟨a, b, c, d⟩ | ⟨w', hw', _, hp', hc, c, d⟩ | ⟨w', hw', _, hp', hc, c, d⟩
  · omega
  · rw [c]; simp only
    have : w' = w := by rcases hp' with rfl | rfl <;> simp only at z <;> omega
    rw [this]
  · rw [c]; simp only
    have : w' = w := by rcases hp' with rfl | rfl <;> simp only at z <;> omega
    rw [this]
theorem cnt7 (j : Jn 4 (clqE 4) x y 9 B node mv) (hd : (nearOf node B).length = 6) : cnt 12 (sortE (joinL 4 (clqE 4) x y B node mv)) 3 ≤ 5000 ∧ ∀ e, cnt 12 (less (sortE (joinL 4 (clqE 4) x y B node mv)) e) 3 ≤ 5000 := by
  have up : Up 12 (sortE (joinL 4 (clqE 4) x y B node mv)) := (okJ j).lt
  have hp := j.ed
  have hI : ((nearOf node B).map (place 4 node)).Nodup := by
    rw [List.Nodup, List.pairwise_map]
    refine List.Pairwise.imp_of_mem (fun {a b} ha hb hab z => hab (pl_inj (near_low j ha).1 (near_low j hb).1 z)) (near_nd j.okB.lt j.okB.nd)
  have hlen : ((nearOf node B).map (place 4 node)).length = 6 := by rw [List.length_map, hd]
  have hq : ∀ i ∈ (nearOf node B).map (place 4 node), 4 ≤ i ∧ i < 4 + 8 ∧ ∃ q ∈ sortE (joinL 4 (clqE 4) x y B node mv), q.2 = i := fun i hi => by
    obtain ⟨w, hw, rfl⟩ := List.mem_map.mp hi
    obtain ⟨a, b, c⟩ := near_low j hw
    have h1 := pl_ge (n1 := 4) a
    have h2 := pl_lt (n1 := 4) a j.lt b
    exact ⟨h1, by omega, c⟩
  constructor
  · refine Nat.le_trans (cnt_pre (m := 4) (f := 8) (E0 := less (less (clqE 4) (norm (x, y))) (norm (x, y))) up rfl (fun i hi => ?_) (bd7.1 ?_)) (pre4a _ hp _ hp)
    · rw [less_twice, low_J j hi]
    · rw [← hlen]
      refine nF_ge hI fun i hi => ?_
      obtain ⟨a, b, q, c, rfl⟩ := hq i hi
      exact ⟨a, b, low_ne c⟩
  · intro e
    by_cases he : e ∈ clqE 4
    · have he2 : e.2 < 4 := (clq_mem.mp he).2.2
      refine Nat.le_trans (cnt_pre (m := 4) (f := 8) (E0 := less (less (clqE 4) (norm (x, y))) e) (up_less up e) rfl (fun i hi => ?_) (bd7.1 ?_)) (pre4a _ hp _ he)
      · rw [low_Je j e hi]
      · rw [← hlen]
        refine nF_ge hI fun i hi => ?_
        obtain ⟨a, b, q, c, rfl⟩ := hq i hi
        exact ⟨a, b, low_ne (mem_less.mpr ⟨c, fun z => by rw [z] at a; omega⟩)⟩
    · refine Nat.le_trans (cnt_pre (m := 4) (f := 8) (E0 := less (less (clqE 4) (norm (x, y))) (norm (x, y))) (up_less up e) rfl (fun i hi => ?_) (bd7.2 ?_)) (pre4b _ hp)
      · rw [low_Je j e hi, less_twice, less_out fun h => he (mem_less.mp h).1]
      · have h5 : 5 ≤ (((nearOf node B).map (place 4 node)).filter fun i => decide (i ≠ e.2)).length := by
          have h6 : ((nearOf node B).map (place 4 node)).length ≤ (e.2 :: (((nearOf node B).map (place 4 node)).filter fun i => decide (i ≠ e.2))).length := nodup_le hI fun i hi => by
            by_cases z : i = e.2
            · rw [z]; exact List.mem_cons_self ..
            · exact List.mem_cons_of_mem _ (List.mem_filter.mpr ⟨hi, decide_eq_true z⟩)
          rw [hlen, List.length_cons] at h6
          omega
        refine Nat.le_trans h5 (nF_ge (hI.filter _) fun i hi => ?_)
        obtain ⟨hi1, hi2⟩ := List.mem_filter.mp hi
        have hi2 := of_decide_eq_true hi2
        obtain ⟨a, b, q, c, rfl⟩ := hq i hi1
        exact ⟨a, b, low_ne (mem_less.mpr ⟨c, fun z => hi2 (by rw [z])⟩)⟩
/-- the divided graph of nine nodes: four edges that share no node, none at the node split -/
theorem cntP7 {n1 : Nat} {A : List Pr} (j : Jn n1 A x y 9 B node mv) (I : List Nat) (nd : I.Nodup) (h4 : 4 ≤ I.length) (hI : ∀ i ∈ I, i < 9 ∧ ∃ q ∈ B, q.1 ≠ node ∧ q.2 ≠ node ∧ q.2 = i) : cnt 10 (sortE (partL 9 B node mv)) 3 ≤ 5000 := by
  have up : Up 10 (sortE (partL 9 B node mv)) := (okP j).lt
  refine Nat.le_trans (cnt_cI up) ?_
  have e : ((List.range 10).map (cI 3 (sortE (partL 9 B node mv)))) = csM 3 0 (((List.range 9).map fun j_1 => decide (lowOf (0 + j_1) (sortE (partL 9 B node mv)) = [])) ++ [false]) := by
    have h := csM_eq 3 (sortE (partL 9 B node mv)) 10 0
    simp only [Nat.zero_add] at h ⊢
    rw [h, List.range_succ (n := 9), List.map_append, List.map_singleton]
    congr 2
    obtain ⟨w, hw⟩ := List.exists_mem_of_ne_nil _ j.mne
    obtain ⟨_, hw2⟩ := j.mem w hw
    obtain ⟨p, hp, z⟩ := mem_nearOf.mp hw2
    obtain ⟨u1, u2⟩ := j.okB.lt p hp
    have hm : pf 9 node mv p ∈ sortE (partL 9 B node mv) := mem_P.mpr ⟨p, hp, rfl⟩
    have h9 : (pf 9 node mv p).2 = 9 := by
      rcases jf_or (n2 := 9) n1 x y mv (node := node) u1 with ⟨a, b, c, d⟩ | ⟨w', hw', _, hp', hc, c, d⟩ | ⟨w', hw', _, hp', hc, c, d⟩
      · omega
      · rw [d]
      · have : w' = w := by rcases hp' with rfl | rfl <;> simp only at z <;> omega
        rw [this] at hc
        rw [List.contains_eq_mem, decide_eq_false_iff_not] at hc
        exact absurd hw hc
    have := low_ne hm
    rw [h9] at this
    rw [decide_eq_false this]
  rw [e]
  have h := mem_masks ((List.range 9).map fun j_1 => decide (lowOf (0 + j_1) (sortE (partL 9 B node mv)) = []))
  rw [List.length_map, List.length_range] at h
  refine mskA _ h (Nat.le_trans h4 (nF_ge nd fun i hi => ?_))
  obtain ⟨a, q, hq, b1, b2, rfl⟩ := hI i hi
  obtain ⟨u1, u2⟩ := j.okB.lt q hq
  refine ⟨Nat.zero_le _, by omega, low_ne (mem_P.mpr ⟨q, hq, ?_⟩)⟩
  rcases jf_or (n2 := 9) n1 x y mv (node := node) u1 with ⟨a, b, c, d⟩ | ⟨w', hw', _, hp', hc, c, d⟩ | ⟨w', hw', _, hp', hc, c, d⟩
  · exact d
  · rcases hp' with rfl | rfl <;> simp only at b1 b2 <;> omega
  · rcases hp' with rfl | rfl <;> simp only at b1 b2 <;> omega
end
end HD
end
section
set_option Elab.async false
set_option linter.all false
set_option maxRecDepth 100000
set_option maxHeartbeats 4000000
/-! CM9: the worlds of the law. -/
namespace HD
open CM
theorem base_crt : ∀ kd, kd < 8 → ∀ t, t < 2 → crtB (f2 kd t).1 (f2 kd t).2 (kOf kd) = true ∧ crtB (s3 kd t).1 (s3 kd t).2 (kOf kd) = true := by decide +kernel
theorem base_nd : ∀ kd, kd < 8 → ∀ t, t < 2 → decide (f2 kd t).2.Nodup = true ∧ decide (s3 kd t).2.Nodup = true := by decide +kernel
theorem clq_ok : ∀ n, n < 6 → decide (Srt (clqE n)) = true ∧ decide (clqE n).Nodup = true := by decide +kernel
theorem two_no1 : firstCol 10 (sortE (partL 9 twoE 0 [1, 2, 3])) 3 = none := by decide +kernel
theorem two_no2 : firstCol 10 (sortE (partL 9 twoE 0 [4, 5, 6])) 3 = none := by decide +kernel
theorem two_deg : (nearOf 0 twoE).length = 6 := by decide +kernel
theorem two_nr : ∀ i, i < 7 → 0 < i → (0, i) ∈ twoE := by decide +kernel
/-! ### lots -/
theorem subs_app (r : List Nat) (x : Nat) : subsF (r ++ [x]) = subsF r ++ (subsF r).map (· ++ [x]) := by
  unfold subsF
  rw [List.foldl_append]; rfl
theorem snoc_ind {p : List Nat → Prop} (h0 : p []) (h1 : ∀ r x, p r → p (r ++ [x])) : ∀ r, p r := fun r => by
  have : ∀ s : List Nat, p s.reverse := fun s => by
    induction s with
    | nil => exact h0
    | cons x s ih => rw [List.reverse_cons]; exact h1 _ _ ih
  have h := this r.reverse
  rwa [List.reverse_reverse] at h
theorem subs_sub : ∀ r : List Nat, ∀ m ∈ subsF r, m.Sublist r := snoc_ind (fun m hm => by
    have : m = [] := by simpa [subsF] using hm
    subst this; exact List.Sublist.refl _) (fun r x ih m hm => by
    rw [subs_app] at hm
    rcases List.mem_append.mp hm with h | h
    · exact (ih m h).trans (List.sublist_append_left _ _)
    · obtain ⟨m', h', rfl⟩ := List.mem_map.mp h
      exact List.Sublist.append (ih m' h') (List.Sublist.refl _))
theorem subs_mid : ∀ r : List Nat, r ≠ [] → ∃ mid, subsF r = [] :: (mid ++ [r]) ∧ ∀ m ∈ mid, m ≠ [] ∧ m.length < r.length := snoc_ind (fun h => absurd rfl h) (fun r x ih _ => by
    by_cases hr : r = []
    · subst hr
      exact ⟨[], rfl, fun m hm => by cases hm⟩
    · obtain ⟨mid, h1, h2⟩ := ih hr
      have hpos : 0 < r.length := List.length_pos_iff.mpr hr
      refine ⟨mid ++ [r] ++ ([x] :: mid.map (· ++ [x])), ?_, fun m hm => ?_⟩
      · rw [subs_app, h1]
        simp
      · rw [List.length_append, List.length_singleton]
        rcases List.mem_append.mp hm with h | h
        · rcases List.mem_append.mp h with h | h
          · have := h2 m h; exact ⟨this.1, by omega⟩
          · rw [List.mem_singleton] at h; subst h; exact ⟨hr, by omega⟩
        · rcases List.mem_cons.mp h with rfl | h
          · exact ⟨by simp, by simp; omega⟩
          · obtain ⟨m', h', rfl⟩ := List.mem_map.mp h
            have := h2 m' h'
            exact ⟨by simp, by rw [List.length_append, List.length_singleton]; omega⟩)
theorem lots_mem {r m : List Nat} (h : m ∈ lotsF r) : m.Sublist r ∧ m ≠ [] ∧ m.length < r.length := by
  by_cases hr : r = []
  · subst hr; simp [lotsF, subsF] at h
  · obtain ⟨mid, h1, h2⟩ := subs_mid r hr
    unfold lotsF at h
    rw [h1, List.drop_succ_cons, List.drop_zero, List.dropLast_concat] at h
    refine ⟨subs_sub r m ?_, h2 m h⟩
    rw [h1]; exact List.mem_cons_of_mem _ (List.mem_append_left _ h)
/-- what a lot may be -/
structure Lt' (n : Nat) (B : List Pr) (node : Nat) (mv : List Nat) : Prop where
  mne : mv ≠ []
  mem : ∀ m ∈ mv, m < n ∧ m ∈ nearOf node B
  nd : mv.Nodup
  len : mv.length < (nearOf node B).length
theorem lt_lots {n : Nat} {B : List Pr} {node : Nat} {mv : List Nat} (up : Up n B) (nd : B.Nodup) (h : mv ∈ lotsF (sortN (nearOf node B))) : Lt' n B node mv := by
  obtain ⟨a, b, c⟩ := lots_mem h
  have hp := sortN_perm (nearOf node B)
  refine ⟨b, fun m hm => ?_, (hp.nodup_iff.mpr (near_nd up nd)).sublist a, by rw [hp.length_eq] at c; exact c⟩
  have hm2 := hp.mem_iff.mp (a.subset hm)
  refine ⟨?_, hm2⟩
  obtain ⟨p, hpB, z⟩ := mem_nearOf.mp hm2
  have := up p hpB
  omega
theorem getD_mem {α : Type} {l : List α} {i : Nat} {d : α} (h : i < l.length) : l.getD i d ∈ l := by
  rw [List.getD_eq_getElem?_getD, List.getElem?_eq_getElem h]; exact List.getElem_mem h
theorem pick_lots {n1 n2 : Nat} {B : List Pr} {node : Nat} {z : Int} {mv : List Nat} (h : 0 < (lotsF (sortN (nearOf node B))).length) (hm : mv ∈ pickF n1 n2 B [] node z) : mv ∈ lotsF (sortN (nearOf node B)) := by
  unfold pickF at hm
  split at hm
  · exact hm
  · rw [if_pos rfl] at hm
    rcases List.mem_cons.mp hm with rfl | hm
    · exact getD_mem (ixZ_spec _ h).2
    · rw [List.mem_singleton] at hm
      subst hm
      exact getD_mem (ixZ_spec _ h).2
theorem pick_ord {n1 n2 : Nat} {B : List Pr} {o : List Nat} {node : Nat} {z : Int} (ho : o ≠ []) (h : 0 < (lotsF (sortN (nearOf node B))).length) : ∃ m0 m1, pickF n1 n2 B o node z = [m0, m1] ∧ m0 ∈ lotsF (sortN (nearOf node B)) ∧ (m1 = sortN ((o.drop 1).take 3) ∨ m1 = sortN ((o.drop 4).take 3)) := by
  unfold pickF
  rw [if_neg (fun q => ho q.1), if_neg ho]
  split
  · exact ⟨_, _, rfl, getD_mem (ixZ_spec _ h).2, .inl rfl⟩
  · exact ⟨_, _, rfl, getD_mem (ixZ_spec _ h).2, .inr rfl⟩
theorem take3 {o : List Nat} (a : Nat) (h : a + 3 ≤ o.length) : (o.drop a).take 3 = [o.getD a 0, o.getD (a + 1) 0, o.getD (a + 2) 0] := by
  have g : ∀ i, i < o.length → o.getD i 0 = o[i]! := fun i hi => by
    rw [List.getD_eq_getElem?_getD, List.getElem?_eq_getElem hi]; simp [hi]
  apply List.ext_getElem?
  intro i
  rw [List.getElem?_take]
  by_cases h0 : i < 3
  · rw [if_pos h0, List.getElem?_drop]
    have : i = 0 ∨ i = 1 ∨ i = 2 := by omega
    rcases this with rfl | rfl | rfl <;> simp [List.getD_eq_getElem?_getD, List.getElem?_eq_getElem (show a < o.length by omega), List.getElem?_eq_getElem (show a + 1 < o.length by omega), List.getElem?_eq_getElem (show a + 2 < o.length by omega)]
  · rw [if_neg h0, List.getElem?_eq_none (by simp; omega)]
theorem dj {A B p q r s : Nat} (h1 : A = p ∨ A = q) (h2 : B = r ∨ B = s) (a : p ≠ r) (b : p ≠ s) (c : q ≠ r) (d : q ≠ s) : A ≠ B := by
  rcases h1 with rfl | rfl <;> rcases h2 with rfl | rfl <;> assumption
/-! ### the graph of two sides -/
section
variable {o : List Nat} (ho : o.Perm (List.range 9))
include ho
theorem two_up : Up 9 twoE := by decide
theorem two_near {i : Nat} (h : i < 7) (h0 : 0 < i) : o.getD i 0 ∈ nearOf (o.getD 0 0) (mapE twoE o) := by
  have hm : ren o (0, i) ∈ mapE twoE o := mem_mapE.mpr ⟨(0, i), two_nr i h h0, rfl⟩
  have hne : o.getD 0 0 ≠ o.getD i 0 := fun e => by have := o_inj ho (by omega : 0 < 9) (by omega) e; omega
  refine mem_nearOf.mpr ⟨_, hm, ?_⟩
  unfold ren
  rcases norm_or (o.getD 0 0) (o.getD i 0) with e | e <;> rw [e]
  · exact .inl ⟨rfl, rfl⟩
  · exact .inr ⟨fun z => hne z.symm, rfl, rfl⟩
theorem side_lt {a : Nat} (h0 : 0 < a) (h : a + 2 < 7) : Lt' 9 (mapE twoE o) (o.getD 0 0) (sortN ((o.drop a).take 3)) := by
  have hl := o_len ho
  have hp := sortN_perm ((o.drop a).take 3)
  have e3 := take3 (o := o) a (by omega)
  refine ⟨fun z => ?_, fun m hm => ?_, hp.nodup_iff.mpr ?_, ?_⟩
  · have := hp.length_eq; rw [z, e3] at this; simp at this
  · have hm2 := hp.mem_iff.mp hm
    rw [e3] at hm2
    simp only [List.mem_cons, List.not_mem_nil, or_false] at hm2
    have : ∃ i, a ≤ i ∧ i < a + 3 ∧ m = o.getD i 0 := by
      rcases hm2 with h | h | h
      · exact ⟨a, by omega, by omega, h⟩
      · exact ⟨a + 1, by omega, by omega, h⟩
      · exact ⟨a + 2, by omega, by omega, h⟩
    obtain ⟨i, i1, i2, rfl⟩ := this
    exact ⟨o_lt ho (by omega), two_near ho (by omega) (by omega)⟩
  · exact (o_nd ho).sublist ((List.take_sublist _ _).trans (List.drop_sublist _ _))
  · rw [hp.length_eq, e3, deg_map ho (two_up ho) (by decide), two_deg]; exact (show 3 < 6 by decide)
theorem side_no {a : Nat} (h0 : 0 < a) (h : a + 2 < 7) (hb : ¬ Col 10 (sortE (partL 9 twoE 0 [a, a + 1, a + 2])) 3) : ¬ Col 10 (sortE (partL 9 (mapE twoE o) (o.getD 0 0) (sortN ((o.drop a).take 3)))) 3 := fun ⟨f, h1, h2⟩ => by
  have hl := o_len ho
  have hp := sortN_perm ((o.drop a).take 3)
  have e3 := take3 (o := o) a (by omega)
  have hcon : ∀ w, w < 9 → (sortN ((o.drop a).take 3)).contains (o.getD w 0) = [a, a + 1, a + 2].contains w := fun w hw => by
    rw [List.contains_eq_mem, List.contains_eq_mem, decide_eq_decide, hp.mem_iff, e3]
    simp only [List.mem_cons, List.not_mem_nil, or_false]
    have i : ∀ v, v < 9 → (o.getD w 0 = o.getD v 0 ↔ w = v) := fun v hv => ⟨fun e => o_inj ho hw hv e, fun e => by rw [e]⟩
    rw [i a (by omega), i (a + 1) (by omega), i (a + 2) (by omega)]
  refine hb ⟨fun v => if v < 9 then f (o.getD v 0) else f 9, fun v hv => ?_, fun q hq => ?_⟩
  · show (if v < 9 then f (o.getD v 0) else f 9) < 3
    split
    · have := o_lt ho (v := v) (by assumption)
      exact h1 _ (by omega)
    · exact h1 _ (by decide)
  · obtain ⟨p, hp', rfl⟩ := mem_P.mp hq
    obtain ⟨u1, u2⟩ := two_up ho p hp'
    have gl : ∀ v, v < 9 → (if v < 9 then f (o.getD v 0) else f 9) = f (o.getD v 0) := fun v hv => if_pos hv
    have hm := h2 _ (mem_P.mpr ⟨ren o p, mem_mapE.mpr ⟨p, hp', rfl⟩, rfl⟩)
    have hB : (ren o p).1 < (ren o p).2 := (ren_lt ho (two_up ho) hp').1
    show (if (pf 9 0 [a, a + 1, a + 2] p).1 < 9 then f (o.getD (pf 9 0 [a, a + 1, a + 2] p).1 0) else f 9) ≠ (if (pf 9 0 [a, a + 1, a + 2] p).2 < 9 then f (o.getD (pf 9 0 [a, a + 1, a + 2] p).2 0) else f 9)
    have i0 : ∀ v, v < 9 → (o.getD v 0 = o.getD 0 0 ↔ v = 0) := fun v hv => ⟨fun e => o_inj ho hv (by decide) e, fun e => by rw [e]⟩
    have hren : ren o p = (o.getD p.1 0, o.getD p.2 0) ∨ ren o p = (o.getD p.2 0, o.getD p.1 0) := norm_or _ _
    rcases jf_or (n2 := 9) 0 0 0 [a, a + 1, a + 2] (node := 0) u1 with ⟨b1, b2, _, d⟩ | ⟨w, hw, _, hp2, hc, _, d⟩ | ⟨w, hw, _, hp2, hc, _, d⟩
    · rw [d, gl p.1 (by omega), gl p.2 u2]
      have c1 := (not_congr (i0 p.1 (by omega))).mpr b1
      have c2 := (not_congr (i0 p.2 u2)).mpr b2
      rcases jf_or (n2 := 9) 0 0 0 (sortN ((o.drop a).take 3)) (node := o.getD 0 0) hB with ⟨_, _, _, d'⟩ | ⟨w', hw', _, hp2', _, _, d'⟩ | ⟨w', hw', _, hp2', _, _, d'⟩
      · rw [d'] at hm
        rcases hren with e | e <;> rw [e] at hm
        · exact hm
        · exact fun z => hm z.symm
      · exfalso
        rcases hren with e | e <;> rw [e] at hp2' <;> rcases hp2' with z | z <;> injection z with z1 z2 <;> first | exact c1 z1 | exact c2 z1 | exact c2 z2 | exact c1 z2
      · exfalso
        rcases hren with e | e <;> rw [e] at hp2' <;> rcases hp2' with z | z <;> injection z with z1 z2 <;> first | exact c1 z1 | exact c2 z1 | exact c2 z2 | exact c1 z2
    · have hp3 : p = (0, w) := by
        rcases hp2 with z | z
        · exact z
        · rw [z] at u1; simp at u1
      have w9 : w < 9 := by rw [hp3] at u2; exact u2
      have hw0 := (not_congr (i0 w w9)).mpr hw
      rw [d]; simp only
      rw [gl w w9, if_neg (by decide)]
      rw [hp3] at hm hren hB
      simp only at hren
      rcases jf_or (n2 := 9) 0 0 0 (sortN ((o.drop a).take 3)) (node := o.getD 0 0) hB with ⟨q1, q2, _, d'⟩ | ⟨w', hw', _, hp2', hc', _, d'⟩ | ⟨w', hw', _, hp2', hc', _, d'⟩
      · exfalso
        rcases hren with e | e <;> rw [e] at q1 q2
        · exact q1 rfl
        · exact q2 rfl
      · have : w' = o.getD w 0 := by
          rcases hren with e | e <;> rw [e] at hp2' <;> rcases hp2' with z | z <;> injection z with z1 z2 <;> first | exact z2.symm | exact z1.symm | exact absurd z1 hw0 | exact absurd z2 hw0
        rw [d', this] at hm; exact hm
      · have : w' = o.getD w 0 := by
          rcases hren with e | e <;> rw [e] at hp2' <;> rcases hp2' with z | z <;> injection z with z1 z2 <;> first | exact z2.symm | exact z1.symm | exact absurd z1 hw0 | exact absurd z2 hw0
        rw [this, hcon w w9, hc] at hc'; cases hc'
    · have hp3 : p = (0, w) := by
        rcases hp2 with z | z
        · exact z
        · rw [z] at u1; simp at u1
      have w9 : w < 9 := by rw [hp3] at u2; exact u2
      have hw0 := (not_congr (i0 w w9)).mpr hw
      rw [d, hp3]; simp only
      rw [gl 0 (by decide), gl w w9]
      rw [hp3] at hm hren hB
      simp only at hren
      rcases jf_or (n2 := 9) 0 0 0 (sortN ((o.drop a).take 3)) (node := o.getD 0 0) hB with ⟨q1, q2, _, d'⟩ | ⟨w', hw', _, hp2', hc', _, d'⟩ | ⟨w', hw', _, hp2', hc', _, d'⟩
      · exfalso
        rcases hren with e | e <;> rw [e] at q1 q2
        · exact q1 rfl
        · exact q2 rfl
      · have : w' = o.getD w 0 := by
          rcases hren with e | e <;> rw [e] at hp2' <;> rcases hp2' with z | z <;> injection z with z1 z2 <;> first | exact z2.symm | exact z1.symm | exact absurd z1 hw0 | exact absurd z2 hw0
        rw [this, hcon w w9, hc] at hc'; cases hc'
      · rw [d'] at hm
        rcases hren with e | e <;> rw [e] at hm
        · exact hm
        · exact fun z => hm z.symm
/-- four edges that share no node -/
theorem two_match : ∃ I : List Nat, I.Nodup ∧ 4 ≤ I.length ∧ ∀ i ∈ I, i < 9 ∧ ∃ q ∈ mapE twoE o, q.1 ≠ o.getD 0 0 ∧ q.2 ≠ o.getD 0 0 ∧ q.2 = i := by
  have one : ∀ a b, (a, b) ∈ twoE → 0 < a → 0 < b → (ren o (a, b)).2 < 9 ∧ (∃ q ∈ mapE twoE o, q.1 ≠ o.getD 0 0 ∧ q.2 ≠ o.getD 0 0 ∧ q.2 = (ren o (a, b)).2) ∧ ((ren o (a, b)).2 = o.getD a 0 ∨ (ren o (a, b)).2 = o.getD b 0) := fun a b hm ha hb => by
    obtain ⟨u1, u2⟩ := two_up ho _ hm
    have hl := ren_lt ho (two_up ho) hm
    have c1 : o.getD a 0 ≠ o.getD 0 0 := fun e => by have := o_inj ho (by simp only at u1 u2; omega : a < 9) (by decide) e; omega
    have c2 : o.getD b 0 ≠ o.getD 0 0 := fun e => by have := o_inj ho u2 (by decide) e; simp only at this; omega
    have hren : ren o (a, b) = (o.getD a 0, o.getD b 0) ∨ ren o (a, b) = (o.getD b 0, o.getD a 0) := norm_or _ _
    refine ⟨hl.2, ⟨_, mem_mapE.mpr ⟨_, hm, rfl⟩, ?_, ?_, rfl⟩, ?_⟩ <;> rcases hren with e | e <;> rw [e]
    · exact c1
    · exact c2
    · exact c2
    · exact c1
    · exact .inr rfl
    · exact .inl rfl
  obtain ⟨a1, a2, a3⟩ := one 1 4 (by decide) (by decide) (by decide)
  obtain ⟨b1, b2, b3⟩ := one 2 3 (by decide) (by decide) (by decide)
  obtain ⟨c1, c2, c3⟩ := one 5 6 (by decide) (by decide) (by decide)
  obtain ⟨d1, d2, d3⟩ := one 7 8 (by decide) (by decide) (by decide)
  have ne : ∀ u v, u < 9 → v < 9 → u ≠ v → o.getD u 0 ≠ o.getD v 0 := fun u v hu hv h e => h (o_inj ho hu hv e)
  have n12 := ne 1 2 (by decide) (by decide) (by decide)
  have n13 := ne 1 3 (by decide) (by decide) (by decide)
  have n15 := ne 1 5 (by decide) (by decide) (by decide)
  have n16 := ne 1 6 (by decide) (by decide) (by decide)
  have n17 := ne 1 7 (by decide) (by decide) (by decide)
  have n18 := ne 1 8 (by decide) (by decide) (by decide)
  have n42 := ne 4 2 (by decide) (by decide) (by decide)
  have n43 := ne 4 3 (by decide) (by decide) (by decide)
  have n45 := ne 4 5 (by decide) (by decide) (by decide)
  have n46 := ne 4 6 (by decide) (by decide) (by decide)
  have n47 := ne 4 7 (by decide) (by decide) (by decide)
  have n48 := ne 4 8 (by decide) (by decide) (by decide)
  have n25 := ne 2 5 (by decide) (by decide) (by decide)
  have n26 := ne 2 6 (by decide) (by decide) (by decide)
  have n27 := ne 2 7 (by decide) (by decide) (by decide)
  have n28 := ne 2 8 (by decide) (by decide) (by decide)
  have n35 := ne 3 5 (by decide) (by decide) (by decide)
  have n36 := ne 3 6 (by decide) (by decide) (by decide)
  have n37 := ne 3 7 (by decide) (by decide) (by decide)
  have n38 := ne 3 8 (by decide) (by decide) (by decide)
  have n57 := ne 5 7 (by decide) (by decide) (by decide)
  have n58 := ne 5 8 (by decide) (by decide) (by decide)
  have n67 := ne 6 7 (by decide) (by decide) (by decide)
  have n68 := ne 6 8 (by decide) (by decide) (by decide)
  generalize (ren o (1, 4)).2 = A at *
  generalize (ren o (2, 3)).2 = B at *
  generalize (ren o (5, 6)).2 = C at *
  generalize (ren o (7, 8)).2 = E at *
  refine ⟨[A, B, C, E], ?_, Nat.le_refl _, fun i hi => ?_⟩
  · simp only [List.nodup_cons, List.mem_cons, List.not_mem_nil, or_false, List.nodup_nil, not_or, not_false_eq_true, and_true]
    exact ⟨⟨dj a3 b3 n12 n13 n42 n43, dj a3 c3 n15 n16 n45 n46, dj a3 d3 n17 n18 n47 n48⟩, ⟨dj b3 c3 n25 n26 n35 n36, dj b3 d3 n27 n28 n37 n38⟩, dj c3 d3 n57 n58 n67 n68⟩
  · simp only [List.mem_cons, List.not_mem_nil, or_false] at hi
    rcases hi with rfl | rfl | rfl | rfl
    · exact ⟨a1, a2⟩
    · exact ⟨b1, b2⟩
    · exact ⟨c1, c2⟩
    · exact ⟨d1, d2⟩
end
end HD
end
section
set_option Elab.async false
set_option linter.all false
set_option maxRecDepth 100000
set_option maxHeartbeats 4000000
/-! CM10: every world of the law is good. -/
namespace HD
open CM
theorem num1 : ∀ kd, kd < 8 → ∀ t, t < 2 → Cw (kOf kd) (f2 kd t).1 0 ≤ 5000 ∧ Cw (kOf kd) (s3 kd t).1 0 ≤ 5000 := by decide +kernel
theorem num2 : ∀ kd, kd < 8 → ∀ t, t < 2 → ∀ u, u < 2 → (f2 kd t).1 + (s3 kd u).1 ≤ 48 := by decide +kernel
theorem num3 : ∀ kd, kd < 6 → ∀ t, t < 2 → ∀ u, u < 2 → Cw (kOf kd) ((f2 kd t).1 + (s3 kd u).1 - 1) 0 ≤ 5000 := by decide +kernel
theorem num4 : ∀ kd, kd < 7 → ∀ t, t < 2 → Cw (kOf kd) ((s3 kd t).1 + 1) 0 ≤ 5000 := by decide +kernel
theorem num5 : ∀ kd, kd < 8 → 1 ≤ kOf kd ∧ kOf kd ≤ 6 := by decide
theorem lr_of {n1 : Nat} {A : List Pr} {x y n2 : Nat} {B : List Pr} {node : Nat} {mv : List Nat} {k : Nat} (j : Jn n1 A x y n2 B node mv) (cA : Crt n1 A k) (cB : Crt n2 B k) (k1 : 1 ≤ k) (k6 : k ≤ 6)
    (cJ : cnt (n1 + n2 - 1) (sortE (joinL n1 A x y B node mv)) k ≤ 5000 ∧ ∀ e, cnt (n1 + n2 - 1) (less (sortE (joinL n1 A x y B node mv)) e) k ≤ 5000) (cP : cnt (n2 + 1) (sortE (partL n2 B node mv)) k ≤ 5000) : LR n1 A n2 B k x y node mv where
  fu := j.fu
  k1 := k1
  k6 := k6
  edF := join_edF j
  eqF := by rw [fus_map j]
  edD := part_edD j
  eqD := by rw [div_map j]
  cr := ⟨okJ j, k1, k6, cJ.1, fun e _ => cJ.2 e⟩
  cP := cP
  non := (first_none (okJ j).lt).mpr (no_J j cA.no cB.no)
  same := crit_J j cA cB
  ne := fun h => by
    have hp := j.okB
    obtain ⟨p, hpB, _, _⟩ := two_at (cB.dg node j.lt).1 hp.nd (0, 0)
    have : jf n1 x y node mv p ∈ sortE (joinL n1 A x y B node mv) := mem_J.mpr (.inr ⟨p, hpB, rfl⟩)
    rw [h] at this; cases this
theorem map_len (E : List Pr) (o : List Nat) : (mapE E o).length = E.length := by rw [mapE_eq, sortE_len, List.length_map]
theorem ne_of {n k : Nat} {E : List Pr} (c : Crt n E k) (h : 1 ≤ n) : E ≠ [] := fun e => by
  have := (c.dg 0 h).1
  rw [e] at this; simp [nearOf] at this
theorem wd {kd t1 t2 : Nat} (hk : kd < 8) (h1 : t1 < 2) (h2 : t2 < 2) {o1 o2 : List Nat} (p1 : o1.Perm (List.range (f2 kd t1).1)) (p2 : o2.Perm (List.range (s3 kd t2).1)) : Wd (kOf kd) (mapG (f2 kd t1) o1) (mapG (s3 kd t2) o2) (if kd < 7 then [] else o2) := by
  obtain ⟨a1, a2, a3, a4⟩ := inR_le (base_ok kd hk t1 h1).1
  obtain ⟨b1, b2, b3, b4⟩ := inR_le (base_ok kd hk t2 h2).2
  have cA0 := crt_of a3 (base_crt kd hk t1 h1).1
  have cB0 := crt_of b3 (base_crt kd hk t2 h2).2
  have ndA := of_decide_eq_true (base_nd kd hk t1 h1).1
  have ndB := of_decide_eq_true (base_nd kd hk t2 h2).2
  have n48 := num2 kd hk t1 h1 t2 h2
  have okA := ok_map p1 a3 (by omega) ndA (by omega)
  have okB := ok_map p2 b3 (by omega) ndB (by omega)
  have cA := crt_map p1 a3 cA0
  have cB := crt_map p2 b3 cB0
  obtain ⟨k1, k6⟩ := num5 kd hk
  have hcA : ∀ E, cnt (f2 kd t1).1 E (kOf kd) ≤ 5000 := fun E => Nat.le_trans (cnt_Cw _ _ _) (num1 kd hk t1 h1).1
  have hcB : ∀ E, cnt (s3 kd t2).1 E (kOf kd) ≤ 5000 := fun E => Nat.le_trans (cnt_Cw _ _ _) (num1 kd hk t2 h2).2
  have lA := map_len (f2 kd t1).2 o1
  have lB := map_len (s3 kd t2).2 o2
  have hdeg : ∀ v, v < (s3 kd t2).1 → 0 < (lotsF (sortN (nearOf v (mapE (s3 kd t2).2 o2)))).length := fun v hv => by
    have := cB.dg v hv
    have hl : (sortN (nearOf v (mapE (s3 kd t2).2 o2))).length = (nearOf v (mapE (s3 kd t2).2 o2)).length := (sortN_perm _).length_eq
    exact (lots_pos (by omega) (by omega)).1
  have mk : ∀ (node : Nat) (p : Pr) (mv : List Nat), node < (s3 kd t2).1 → p ∈ mapE (f2 kd t1).2 o1 → Lt' (s3 kd t2).1 (mapE (s3 kd t2).2 o2) node mv →
      Jn (f2 kd t1).1 (mapE (f2 kd t1).2 o1) p.1 p.2 (s3 kd t2).1 (mapE (s3 kd t2).2 o2) node mv ∧ Jn (f2 kd t1).1 (mapE (f2 kd t1).2 o1) p.2 p.1 (s3 kd t2).1 (mapE (s3 kd t2).2 o2) node mv := fun node p mv hn hp l => by
    obtain ⟨u1, u2⟩ := okA.lt p hp
    have e1 : norm (p.1, p.2) = p := norm_lt u1
    have e2 : norm (p.2, p.1) = p := by rw [norm_gt (p := (p.2, p.1)) (by show ¬ p.2 < p.1; omega)]
    exact ⟨⟨okA, okB, by omega, u2, by omega, by rw [e1]; exact hp, hn, n48, by omega, l.mne, l.mem, l.nd, l.len⟩, ⟨okA, okB, u2, by omega, by omega, by rw [e2]; exact hp, hn, n48, by omega, l.mne, l.mem, l.nd, l.len⟩⟩
  have lot : ∀ (node : Nat) (z : Int), node < (s3 kd t2).1 → ((if kd < 7 then [] else o2) ≠ [] → node = (if kd < 7 then [] else o2).getD 0 0) → ∀ mv ∈ pickF (f2 kd t1).1 (s3 kd t2).1 (mapE (s3 kd t2).2 o2) (if kd < 7 then [] else o2) node z, Lt' (s3 kd t2).1 (mapE (s3 kd t2).2 o2) node mv := by
    intro node z hn ho mv hm
    by_cases h7 : kd < 7
    · rw [if_pos h7] at hm
      exact lt_lots okB.lt okB.nd (pick_lots (hdeg node hn) hm)
    · have e7 : kd = 7 := by omega
      subst e7
      rw [if_neg h7] at hm ho
      have p2' : o2.Perm (List.range 9) := p2
      have hl := o_len p2'
      have hne : o2 ≠ [] := fun q => by rw [q] at hl; cases hl
      have hnode := ho hne
      subst hnode
      obtain ⟨m0, m1, e, e1, e2⟩ := pick_ord (n1 := (f2 7 t1).1) (n2 := (s3 7 t2).1) (z := z) hne (hdeg _ hn)
      rw [e] at hm
      rcases List.mem_cons.mp hm with rfl | hm
      · exact lt_lots okB.lt okB.nd e1
      · rw [List.mem_singleton] at hm
        subst hm
        rcases e2 with rfl | rfl
        · exact side_lt p2' (by decide) (by decide)
        · exact side_lt p2' (by decide) (by decide)
  refine ⟨⟨okA, k1, k6, hcA _, fun e _ => hcA _⟩, crt_critB okA.lt cA, ⟨okB, k1, k6, hcB _, fun e _ => hcB _⟩, crt_critB okB.lt cB, ne_of cA a1, b1, cB.dg, ?_, fun node z p hn ho hp mv hm => ?_, fun hne z => ?_⟩
  · by_cases h7 : kd < 7
    · rw [if_pos h7]; exact .inl rfl
    · have e7 : kd = 7 := by omega
      subst e7
      rw [if_neg h7]
      have p2' : o2.Perm (List.range 9) := p2
      exact .inr ⟨by rw [o_len p2']; decide, o_lt p2' (by decide)⟩
  · have l := lot node z hn ho mv hm
    obtain ⟨j1, j2⟩ := mk node p mv hn hp l
    have lr : ∀ x y, Jn (f2 kd t1).1 (mapE (f2 kd t1).2 o1) x y (s3 kd t2).1 (mapE (s3 kd t2).2 o2) node mv → LR (f2 kd t1).1 (mapE (f2 kd t1).2 o1) (s3 kd t2).1 (mapE (s3 kd t2).2 o2) (kOf kd) x y node mv := fun x y j => by
      by_cases h6 : kd < 6
      · refine lr_of j cA cB k1 k6 ⟨Nat.le_trans (cnt_Cw _ _ _) (num3 kd h6 t1 h1 t2 h2), fun e => Nat.le_trans (cnt_Cw _ _ _) (num3 kd h6 t1 h1 t2 h2)⟩ (Nat.le_trans (cnt_Cw _ _ _) (num4 kd (by omega) t2 h2))
      · by_cases e6 : kd = 6
        · subst e6
          refine lr_of j cA cB k1 k6 ?_ (Nat.le_trans (cnt_Cw _ _ _) (num4 6 (by omega) t2 h2))
          have q1 : mapE (f2 6 t1).2 o1 = clqE 5 := clq_map (n := 5) p1 (of_decide_eq_true (clq_ok 5 (by decide)).1) (of_decide_eq_true (clq_ok 5 (by decide)).2)
          have j' : Jn 5 (mapE (f2 6 t1).2 o1) x y 5 (mapE (s3 6 t2).2 o2) node mv := j
          show cnt 9 (sortE (joinL 5 (mapE (f2 6 t1).2 o1) x y (mapE (s3 6 t2).2 o2) node mv)) 4 ≤ 5000 ∧ ∀ e, cnt 9 (less (sortE (joinL 5 (mapE (f2 6 t1).2 o1) x y (mapE (s3 6 t2).2 o2) node mv)) e) 4 ≤ 5000
          rw [q1] at j' ⊢
          exact cnt6 j'
        · have e7 : kd = 7 := by omega
          subst e7
          have p2' : o2.Perm (List.range 9) := p2
          have hl := o_len p2'
          have hne : o2 ≠ [] := fun q => by rw [q] at hl; cases hl
          have hnode : node = o2.getD 0 0 := ho hne
          have q1 : mapE (f2 7 t1).2 o1 = clqE 4 := clq_map (n := 4) p1 (of_decide_eq_true (clq_ok 4 (by decide)).1) (of_decide_eq_true (clq_ok 4 (by decide)).2)
          have j' : Jn 4 (mapE (f2 7 t1).2 o1) x y 9 (mapE twoE o2) node mv := j
          have hd : (nearOf node (mapE twoE o2)).length = 6 := by rw [hnode, deg_map p2' (two_up p2') (by decide), two_deg]
          obtain ⟨I, i1, i2, i3⟩ := two_match p2'
          refine lr_of j cA cB k1 k6 ?_ (cntP7 j' I i1 i2 (by rw [hnode]; exact i3))
          show cnt 12 (sortE (joinL 4 (mapE (f2 7 t1).2 o1) x y (mapE twoE o2) node mv)) 3 ≤ 5000 ∧ ∀ e, cnt 12 (less (sortE (joinL 4 (mapE (f2 7 t1).2 o1) x y (mapE twoE o2) node mv)) e) 3 ≤ 5000
          rw [q1] at j' ⊢
          exact cnt7 j' hd
    exact ⟨lr _ _ j1, lr _ _ j2⟩
  · by_cases h7 : kd < 7
    · rw [if_pos h7] at hne; exact absurd rfl hne
    · have e7 : kd = 7 := by omega
      subst e7
      rw [if_neg h7] at hne ⊢
      have p2' : o2.Perm (List.range 9) := p2
      have hn : o2.getD 0 0 < 9 := o_lt p2' (by decide)
      obtain ⟨m0, m1, e, e1, e2⟩ := pick_ord (n1 := (f2 7 t1).1) (n2 := (s3 7 t2).1) (B := mapE (s3 7 t2).2 o2) (z := z) hne (hdeg _ hn)
      refine ⟨m1, by show (pickF (f2 7 t1).1 (s3 7 t2).1 (mapE (s3 7 t2).2 o2) o2 (o2.getD 0 0) z)[1]? = _; rw [e]; rfl, ?_⟩
      obtain ⟨p, hp⟩ := List.exists_mem_of_ne_nil _ (ne_of cA a1)
      have l : Lt' 9 (mapE twoE o2) (o2.getD 0 0) m1 := by
        rcases e2 with rfl | rfl
        · exact side_lt p2' (by decide) (by decide)
        · exact side_lt p2' (by decide) (by decide)
      obtain ⟨j1, _⟩ := mk (o2.getD 0 0) p m1 hn hp l
      have up := (okP j1).lt
      refine (first_none up).mpr ?_
      show ¬ Col 10 (sortE (partL 9 (mapE twoE o2) (o2.getD 0 0) m1)) 3
      have hup : ∀ L : List Nat, (L = [1, 2, 3] ∨ L = [4, 5, 6]) → Up 10 (sortE (partL 9 twoE 0 L)) := by
        intro L hL
        rcases hL with rfl | rfl <;> decide +kernel
      rcases e2 with rfl | rfl
      · exact side_no p2' (by decide) (by decide) ((first_none (hup _ (.inl rfl))).mp two_no1)
      · exact side_no p2' (by decide) (by decide) ((first_none (hup _ (.inr rfl))).mp two_no2)
theorem wd_all (ns : List Int) : Wd (kOf (kdF ns)) (gA ns) (gB ns) (ordF ns) := wd (kd_lt ns) (t_lt ns 8) (t_lt ns 16) (orderF_perm _ _) (orderF_perm _ _)
end HD
end
section
set_option Elab.async false
set_option linter.all false
set_option maxRecDepth 100000
set_option maxHeartbeats 0
namespace HD
open PySem PySem.Spec L2

/-! ### what the head tells: facts by names, and one Bool more -/
def obs (fa : List He.Fa) (fn : List He.DefD) (K : PySem.W.Frag) : He.AlD × Bool := (He.obsD fa fn K, exB K)
def hook (n : Nat) (fa : List He.Fa) (fn : List He.DefD) : PySem.W.Hook where
  α := He.AlD × Bool
  obs := fun s => obs fa fn (He.frG s.heap.get? (He.asD s.heap.get? n))
  val := fun _ => (He.valD fn, true)
  says := fun _ h => ∃ K : PySem.W.Frag, K.In h ∧ obs fa fn K = (He.valD fn, true)
  of := fun _ _ e => ⟨_, He.frG_in, e⟩
  keeps := fun _ _ _ ⟨K, hK, c⟩ k => ⟨K, PySem.W.Frag.In.keeps hK k, c⟩
abbrev R : PySem.W.OpenRow := PySem.W.OpenLaw.row PySem.Challenge.rw_colourcritical_k60_whole_fused_exactly
abbrev hk : PySem.W.Hook := hook 6 fa fn
def ob (s : PySem.W.SharedT) : He.AlD × Bool := obs fa fn (He.frG (HandSHeadRun.getT s) (He.asD (HandSHeadRun.getT s) 6))
theorem ob_eq (s : PySem.W.SharedT) : ob s = hk.obs s.abs := by
  have e : HandSHeadRun.getT s = s.abs.heap.get? := funext (HandSHeadRun.getT_eq s)
  show obs fa fn (He.frG (HandSHeadRun.getT s) (He.asD (HandSHeadRun.getT s) 6)) = obs fa fn (He.frG s.abs.heap.get? (He.asD s.abs.heap.get? 6))
  rw [e]
def loose1 : List PySem.Str := [("_wall" : PySem.Str), ("ColourError" : PySem.Str), ("SizeError" : PySem.Str), ("NumberError" : PySem.Str), ("NodeError" : PySem.Str), ("LoopError" : PySem.Str), ("TwinError" : PySem.Str), ("TwinEdge" : PySem.Str), ("NoEdge" : PySem.Str), ("TextError" : PySem.Str), ("TooHeavy" : PySem.Str), ("DIGITS" : PySem.Str), ("checked_number" : PySem.Str), ("checked_k" : PySem.Str), ("checked_size" : PySem.Str), ("checked_node" : PySem.Str)]
def loose2 : List PySem.Str := [("checked_pair" : PySem.Str), ("checked_lot" : PySem.Str), ("decimal" : PySem.Str), ("MOST_NODES" : PySem.Str), ("MOST_DIGITS" : PySem.Str), ("Graph" : PySem.Str), ("graph_edges" : PySem.Str), ("graph_near" : PySem.Str), ("raised_edges" : PySem.Str), ("header_nodes" : PySem.Str), ("line_pair" : PySem.Str), ("fused" : PySem.Str), ("divided" : PySem.Str), ("checked_fusing" : PySem.Str), ("checked_moved" : PySem.Str), ("images_behind" : PySem.Str)]
def loose3 : List PySem.Str := [("divided_edges" : PySem.Str), ("WALK_LIMIT" : PySem.Str), ("_lower_neighbours" : PySem.Str), ("_least_free" : PySem.Str), ("_visited" : PySem.Str), ("first_colouring" : PySem.Str), ("is_critical" : PySem.Str), ("has_bare_node" : PySem.Str), ("edge_colourings" : PySem.Str), ("_law_whole" : PySem.Str), ("_law_wholes" : PySem.Str), ("_law_source" : PySem.Str), ("_law_colouring" : PySem.Str), ("_law_form" : PySem.Str), ("_law_beside" : PySem.Str), ("_law_order" : PySem.Str)]
def loose4 : List PySem.Str := [("_law_mapped" : PySem.Str), ("_law_clique" : PySem.Str), ("_law_rim" : PySem.Str), ("_law_lots" : PySem.Str), ("_law_joined" : PySem.Str), ("_law_parted" : PySem.Str), ("_law_two_sides" : PySem.Str), ("_law_world" : PySem.Str), ("_law_picked" : PySem.Str), ("_law_answered" : PySem.Str), ("_law_lot_right" : PySem.Str)]
abbrev loose : List PySem.Str := loose1 ++ (loose2 ++ (loose3 ++ (loose4)))
theorem run (w : World) : HandSHeadRun.RunEq R (PySem.W.view R.prog [66]) hk ob 20000 loose w := by
  intro os
  kernel_rfl

end HD
end
set_option Elab.async false
set_option linter.all false
set_option maxRecDepth 100000
set_option maxHeartbeats 0
namespace HD
open PySem PySem.Spec L2 DL CM
section
variable {P : Program} {w : World} {K : PySem.W.Frag} {mg : Str → Option Value} {base : Heap}
theorem goodF {k : Nat} (d : He.DefD) {fd0 : FuncData} (F : FunD K d.name d.qual d.params d.body d.scope (d.dvs K) (d.kws K) (He.fAd K d.at_) fd0) (h0 : d.dfl = []) (h1 : d.kwd = []) {N ps : List Str} {sp : Sp} (S : FnScope N ps d.scope)
    (len : ∀ vs H Q E, sp vs H Q E → vs.length = ps.length) {t : TS} (rd : ∀ vs H Q E, sp vs H Q E → t { nx := fun _ H' => Q .non H', rt := Q } (L2.start N vs) H)
    (hw : ∀ (fd : Addr) (cdv : Value) (A : Around) (outer : List Env) (s : Shared) (H : Hp) (E : XK), Room k (A.deeper (PyProof.Rows.envOfC d.qual d.scope s.heap.objs.size fd cdv)) → PSs (cxOf CX0 P w K mg base N d.qual d.scope fd cdv A outer s H E).nox d.body t) :
    FnOk P w K mg base CX0 (k + 1) (He.fAd K d.at_) fd0 ps sp := by
  have e0 : d.dvs K = [] := by unfold He.DefD.dvs; rw [h0]; rfl
  have e1 : d.kws K = [] := by unfold He.DefD.kws; rw [h1]; rfl
  rw [e0, e1] at F
  exact F.ok S len fun cdv A outer s H vs Q E hr hs => ⟨t, (hw _ cdv A outer s H E hr).nox, rd vs H Q E hs⟩
theorem okF_law {sp sp__law_world sp_is_critical sp_Graph___init__ sp__law_picked sp__law_source sp__law_lot_right sp__law_parted sp__law_colouring : Sp} (T : Tx K mg fa fn exB) {fd0 : FuncData} (F : FunD K d_law.name d_law.qual d_law.params d_law.body d_law.scope (d_law.dvs K) (d_law.kws K) (He.fAd K d_law.at_) fd0) (G__law_world : Good P w K mg base 2 (He.fAd K ("_law_world", none)) ["script"] sp__law_world) (G_is_critical : Good P w K mg base 8 (He.fAd K ("is_critical", none)) ["graph", "k"] sp_is_critical) (G_Graph___init__ : Good P w K mg base 4 (He.fAd K ("Graph", some "__init__")) ["self", "nodes", "edges"] sp_Graph___init__) (G__law_picked : Good P w K mg base 2 (He.fAd K ("_law_picked", none)) ["first", "second", "order", "node", "number"] sp__law_picked) (G__law_source : Good P w K mg base 1 (He.fAd K ("_law_source", none)) ["script", "place"] sp__law_source) (G__law_lot_right : Good P w K mg base 9 (He.fAd K ("_law_lot_right", none)) ["first", "second", "k", "joint", "moved", "number"] sp__law_lot_right) (G__law_parted : Good P w K mg base 1 (He.fAd K ("_law_parted", none)) ["second", "node", "moved"] sp__law_parted) (G__law_colouring : Good P w K mg base 1 (He.fAd K ("_law_colouring", none)) ["n", "pairs", "k"] sp__law_colouring)
    (rd : ∀ vs H Q E, sp vs H Q E → t_law K sp__law_world sp_is_critical sp_Graph___init__ sp__law_picked sp__law_source sp__law_lot_right sp__law_parted sp__law_colouring { nx := fun _ H' => Q .non H', rt := Q } (L2.start ["script", "k", "first", "second", "order", "number", "x", "y", "node", "part", "lots", "joint", "moved", "apart"] vs) H) (len : ∀ vs H Q E, sp vs H Q E → vs.length = 1) : FnOk P w K mg base CX0 10 (He.fAd K ("law", none)) fd0 ["script"] sp :=
  goodF (k := 9) d_law F rfl rfl (ps := ["script"]) sc_law len rd fun fd cdv A outer s H E hr =>
    (pss_cons (ps_asg (pe_callG G__law_world (hr.mono (by decide)) (by rfl) (T.glo 35) (pa_cons (pv 0) pa_nil)) (pg_any rfl (pgs_cons (pg_name (i := 1) sc_law.nd rfl (by first | exact Or.inl rfl | exact Or.inr rfl)) (pgs_cons (pg_name (i := 2) sc_law.nd rfl (by first | exact Or.inl rfl | exact Or.inr rfl)) (pgs_cons (pg_name (i := 3) sc_law.nd rfl (by first | exact Or.inl rfl | exact Or.inr rfl)) (pgs_cons (pg_name (i := 4) sc_law.nd rfl (by first | exact Or.inl rfl | exact Or.inr rfl)) (pgs_cons (pg_name (i := 5) sc_law.nd rfl (by first | exact Or.inl rfl | exact Or.inr rfl)) pgs_nil))))))) (pss_cons (ps_asg (pe_ix dl_ix (pe_ix dl_ix (pv 2) pe_int (fun _ _ => rfl)) (pe_op op_modN (pe_callTy dl_int1 (by rfl) (T.free 51) (by decide +kernel) (pa_cons (pv 5) pa_nil)) (pe_callB dl_len (by rfl) (T.free 53) (by decide +kernel) (pa_cons (pe_ix dl_ix (pv 2) pe_int (fun _ _ => rfl)) pa_nil))) (fun _ _ => rfl)) (pg_any rfl (pgs_cons (pg_name (i := 6) sc_law.nd rfl (by first | exact Or.inl rfl | exact Or.inr rfl)) (pgs_cons (pg_name (i := 7) sc_law.nd rfl (by first | exact Or.inl rfl | exact Or.inr rfl)) pgs_nil)))) (pss_cons (ps_set (i := 5) sc_law.nd rfl (by first | exact Or.inl rfl | exact Or.inr rfl) (pe_op op_fdivN (pv 5) (pe_callB dl_len (by rfl) (T.free 53) (by decide +kernel) (pa_cons (pe_ix dl_ix (pv 2) pe_int (fun _ _ => rfl)) pa_nil)))) (pss_cons (ps_if (pt_cmpR (op_eqD hr.units) (pe_op op_modN (pe_callTy dl_int1 (by rfl) (T.free 51) (by decide +kernel) (pa_cons (pv 5) pa_nil)) pe_int) pe_int (by first | exact nomark _ | rfl)) (pss_one (ps_par (i := 6) (j := 7) rfl sc_law.nd rfl rfl (by decide) rfl rfl (pa_cons (pv 7) (pa_cons (pv 6) pa_nil)) (by rfl))) pss_nil) (pss_cons (ps_set (i := 8) sc_law.nd rfl (by first | exact Or.inl rfl | exact Or.inr rfl) (pe_op op_modN (pe_op op_fdivN (pe_callTy dl_int1 (by rfl) (T.free 51) (by decide +kernel) (pa_cons (pv 5) pa_nil)) pe_int) (pe_ix dl_ix (pv 3) pe_int (fun _ _ => rfl)))) (pss_cons (ps_set (i := 5) sc_law.nd rfl (by first | exact Or.inl rfl | exact Or.inr rfl) (pe_op op_fdivN (pe_op op_fdivN (pv 5) pe_int) (pe_ix dl_ix (pv 3) pe_int (fun _ _ => rfl)))) (pss_cons (ps_if (pt_cmpR (op_neD hr.units) (pv 4) (pe_lst pa_nil) (by first | exact nomark _ | rfl)) (pss_one (ps_set (i := 8) sc_law.nd rfl (by first | exact Or.inl rfl | exact Or.inr rfl) (pe_ix dl_ix (pv 4) pe_int (fun _ _ => rfl)))) pss_nil) (pss_cons (ps_for PassesOwn.never rfl (pi_seq (pe_lst (pa_cons (pv 2) (pa_cons (pv 3) pa_nil)))) (pg_name (i := 9) sc_law.nd rfl (by first | exact Or.inl rfl | exact Or.inr rfl)) (pss_one (ps_if (pt_cmpR op_notBl (pe_callG G_is_critical (hr.mono (by decide)) (by rfl) (T.glo 18) (pa_cons (pe_makeG (T.mkr 42) G_Graph___init__ (hr.mono (by decide)) (by rfl) (T.glo 40) (pa_cons (pe_ix dl_ix (pv 9) pe_int (fun _ _ => rfl)) (pa_cons (pe_callTy (dl_list rfl) (by rfl) (T.free 54) (by decide +kernel) (pa_cons (pe_ix dl_ix (pv 9) pe_int (fun _ _ => rfl)) pa_nil)) pa_nil))) (pa_cons (pv 1) pa_nil))) pe_bl (by first | exact nomark _ | rfl)) (pss_one (ps_ret pe_bl)) pss_nil))) (pss_cons (ps_set (i := 10) sc_law.nd rfl (by first | exact Or.inl rfl | exact Or.inr rfl) (pe_callG G__law_picked (hr.mono (by decide)) (by rfl) (T.glo 36) (pa_cons (pv 2) (pa_cons (pv 3) (pa_cons (pv 4) (pa_cons (pv 8) (pa_cons (pv 5) pa_nil))))))) (pss_cons (ps_set (i := 5) sc_law.nd rfl (by first | exact Or.inl rfl | exact Or.inr rfl) (pe_callG G__law_source (hr.mono (by decide)) (by rfl) (T.glo 23) (pa_cons (pv 0) (pa_cons pe_int pa_nil)))) (pss_cons (ps_set (i := 11) sc_law.nd rfl (by first | exact Or.inl rfl | exact Or.inr rfl) (pe_lst (pa_cons (pv 6) (pa_cons (pv 7) (pa_cons (pv 8) pa_nil))))) (pss_cons (ps_for PassesOwn.never rfl (pi_seq (pv 10)) (pg_name (i := 12) sc_law.nd rfl (by first | exact Or.inl rfl | exact Or.inr rfl)) (pss_cons (ps_if (pt_not (dl_truth (pe_callG G__law_lot_right (hr.mono (by decide)) (by rfl) (T.glo 38) (pa_cons (pv 2) (pa_cons (pv 3) (pa_cons (pv 1) (pa_cons (pv 11) (pa_cons (pv 12) (pa_cons (pv 5) pa_nil))))))))) (pss_one (ps_ret pe_bl)) pss_nil) (pss_one (ps_set (i := 5) sc_law.nd rfl (by first | exact Or.inl rfl | exact Or.inr rfl) (pe_op op_fdivN (pv 5) pe_int))))) (pss_cons (ps_if (pt_cmpR (op_eqD hr.units) (pv 4) (pe_lst pa_nil) (by first | exact nomark _ | rfl)) (pss_one (ps_ret pe_bl)) pss_nil) (pss_cons (ps_set (i := 13) sc_law.nd rfl (by first | exact Or.inl rfl | exact Or.inr rfl) (pe_callG G__law_parted (hr.mono (by decide)) (by rfl) (T.glo 33) (pa_cons (pv 3) (pa_cons (pv 8) (pa_cons (pe_ix dl_ix (pv 10) pe_int (fun _ _ => rfl)) pa_nil))))) (pss_one (ps_ret (pe_cmpR dl_isN (pe_callG G__law_colouring (hr.mono (by decide)) (by rfl) (T.glo 24) (pa_cons (pe_ix dl_ix (pv 13) pe_int (fun _ _ => rfl)) (pa_cons (pe_ix dl_ix (pv 13) pe_int (fun _ _ => rfl)) (pa_cons (pv 1) pa_nil)))) pe_non (by first | exact nomark _ | rfl))))))))))))))))))
end
theorem lenP__law_source : ∀ ds d, P__law_source ds d → ds.length = 2 := fun ds d h => by
  unfold P__law_source at h
  repeat (first | (obtain ⟨e, _⟩ := h; subst e; rfl) | (obtain ⟨_, h⟩ := h))
theorem lenP__law_clique : ∀ ds d, P__law_clique ds d → ds.length = 1 := fun ds d h => by
  unfold P__law_clique at h
  repeat (first | (obtain ⟨e, _⟩ := h; subst e; rfl) | (obtain ⟨_, h⟩ := h))
theorem lenP__law_rim : ∀ ds d, P__law_rim ds d → ds.length = 2 := fun ds d h => by
  unfold P__law_rim at h
  repeat (first | (obtain ⟨e, _⟩ := h; subst e; rfl) | (obtain ⟨_, h⟩ := h))
theorem lenP__law_two_sides : ∀ ds d, P__law_two_sides ds d → ds.length = 0 := fun ds d h => by
  unfold P__law_two_sides at h
  repeat (first | (obtain ⟨e, _⟩ := h; subst e; rfl) | (obtain ⟨_, h⟩ := h))
theorem lenP__law_order : ∀ ds d, P__law_order ds d → ds.length = 2 := fun ds d h => by
  unfold P__law_order at h
  repeat (first | (obtain ⟨e, _⟩ := h; subst e; rfl) | (obtain ⟨_, h⟩ := h))
theorem lenP__law_mapped : ∀ ds d, P__law_mapped ds d → ds.length = 2 := fun ds d h => by
  unfold P__law_mapped at h
  repeat (first | (obtain ⟨e, _⟩ := h; subst e; rfl) | (obtain ⟨_, h⟩ := h))
theorem lenP__law_world : ∀ ds d, P__law_world ds d → ds.length = 1 := fun ds d h => by
  unfold P__law_world at h
  repeat (first | (obtain ⟨e, _⟩ := h; subst e; rfl) | (obtain ⟨_, h⟩ := h))
theorem lenP_checked_number : ∀ ds d, P_checked_number ds d → ds.length = 3 := fun ds d h => by
  unfold P_checked_number at h
  repeat (first | (obtain ⟨e, _⟩ := h; subst e; rfl) | (obtain ⟨_, h⟩ := h))
theorem lenP_checked_k : ∀ ds d, P_checked_k ds d → ds.length = 1 := fun ds d h => by
  unfold P_checked_k at h
  repeat (first | (obtain ⟨e, _⟩ := h; subst e; rfl) | (obtain ⟨_, h⟩ := h))
theorem lenP_checked_node : ∀ ds d, P_checked_node ds d → ds.length = 2 := fun ds d h => by
  unfold P_checked_node at h
  repeat (first | (obtain ⟨e, _⟩ := h; subst e; rfl) | (obtain ⟨_, h⟩ := h))
theorem lenP_Graph_degree (K : PySem.W.Frag) : ∀ ds d, P_Graph_degree K ds d → ds.length = 2 := fun ds d h => by
  unfold P_Graph_degree at h
  repeat (first | (obtain ⟨e, _⟩ := h; subst e; rfl) | (obtain ⟨_, h⟩ := h))
theorem lenP_has_bare_node (K : PySem.W.Frag) : ∀ ds d, P_has_bare_node K ds d → ds.length = 1 := fun ds d h => by
  unfold P_has_bare_node at h
  repeat (first | (obtain ⟨e, _⟩ := h; subst e; rfl) | (obtain ⟨_, h⟩ := h))
theorem lenP__lower_neighbours (K : PySem.W.Frag) : ∀ ds d, P__lower_neighbours K ds d → ds.length = 1 := fun ds d h => by
  unfold P__lower_neighbours at h
  repeat (first | (obtain ⟨e, _⟩ := h; subst e; rfl) | (obtain ⟨_, h⟩ := h))
theorem lenP__least_free : ∀ ds d, P__least_free ds d → ds.length = 4 := fun ds d h => by
  unfold P__least_free at h
  repeat (first | (obtain ⟨e, _⟩ := h; subst e; rfl) | (obtain ⟨_, h⟩ := h))
theorem lenP__visited (K : PySem.W.Frag) : ∀ ds d, P__visited K ds d → ds.length = 4 := fun ds d h => by
  unfold P__visited at h
  repeat (first | (obtain ⟨e, _⟩ := h; subst e; rfl) | (obtain ⟨_, h⟩ := h))
theorem lenP_first_colouring (K : PySem.W.Frag) : ∀ ds d, P_first_colouring K ds d → ds.length = 2 := fun ds d h => by
  unfold P_first_colouring at h
  repeat (first | (obtain ⟨e, _⟩ := h; subst e; rfl) | (obtain ⟨_, h⟩ := h))
theorem lenP_checked_pair : ∀ ds d, P_checked_pair ds d → ds.length = 3 := fun ds d h => by
  unfold P_checked_pair at h
  repeat (first | (obtain ⟨e, _⟩ := h; subst e; rfl) | (obtain ⟨_, h⟩ := h))
theorem lenP_graph_edges : ∀ ds d, P_graph_edges ds d → ds.length = 2 := fun ds d h => by
  unfold P_graph_edges at h
  repeat (first | (obtain ⟨e, _⟩ := h; subst e; rfl) | (obtain ⟨_, h⟩ := h))
theorem lenP_graph_near : ∀ ds d, P_graph_near ds d → ds.length = 2 := fun ds d h => by
  unfold P_graph_near at h
  repeat (first | (obtain ⟨e, _⟩ := h; subst e; rfl) | (obtain ⟨_, h⟩ := h))
theorem lenP_Graph_init : ∀ ds fs, P_Graph_init ds fs → ds.length + 1 = 3 := fun ds fs h => by
  unfold P_Graph_init at h
  repeat (first | (obtain ⟨e, _⟩ := h; subst e; rfl) | (obtain ⟨_, h⟩ := h))
theorem lenP_Graph_without_edge (K : PySem.W.Frag) : ∀ ds d, P_Graph_without_edge K ds d → ds.length = 3 := fun ds d h => by
  unfold P_Graph_without_edge at h
  repeat (first | (obtain ⟨e, _⟩ := h; subst e; rfl) | (obtain ⟨_, h⟩ := h))
theorem lenP_edge_colourings (K : PySem.W.Frag) : ∀ ds d, P_edge_colourings K ds d → ds.length = 2 := fun ds d h => by
  unfold P_edge_colourings at h
  repeat (first | (obtain ⟨e, _⟩ := h; subst e; rfl) | (obtain ⟨_, h⟩ := h))
theorem lenP_is_critical (K : PySem.W.Frag) : ∀ ds d, P_is_critical K ds d → ds.length = 2 := fun ds d h => by
  unfold P_is_critical at h
  repeat (first | (obtain ⟨e, _⟩ := h; subst e; rfl) | (obtain ⟨_, h⟩ := h))
theorem lenP__law_lots : ∀ ds d, P__law_lots ds d → ds.length = 1 := fun ds d h => by
  unfold P__law_lots at h
  repeat (first | (obtain ⟨e, _⟩ := h; subst e; rfl) | (obtain ⟨_, h⟩ := h))
theorem lenP__law_beside : ∀ ds d, P__law_beside ds d → ds.length = 2 := fun ds d h => by
  unfold P__law_beside at h
  repeat (first | (obtain ⟨e, _⟩ := h; subst e; rfl) | (obtain ⟨_, h⟩ := h))
theorem lenP__law_picked : ∀ ds d, P__law_picked ds d → ds.length = 5 := fun ds d h => by
  unfold P__law_picked at h
  repeat (first | (obtain ⟨e, _⟩ := h; subst e; rfl) | (obtain ⟨_, h⟩ := h))
theorem lenP__law_joined : ∀ ds d, P__law_joined ds d → ds.length = 6 := fun ds d h => by
  unfold P__law_joined at h
  repeat (first | (obtain ⟨e, _⟩ := h; subst e; rfl) | (obtain ⟨_, h⟩ := h))
theorem lenP_Graph_adjacent (K : PySem.W.Frag) : ∀ ds d, P_Graph_adjacent K ds d → ds.length = 3 := fun ds d h => by
  unfold P_Graph_adjacent at h
  repeat (first | (obtain ⟨e, _⟩ := h; subst e; rfl) | (obtain ⟨_, h⟩ := h))
theorem lenP_checked_size : ∀ ds d, P_checked_size ds d → ds.length = 3 := fun ds d h => by
  unfold P_checked_size at h
  repeat (first | (obtain ⟨e, _⟩ := h; subst e; rfl) | (obtain ⟨_, h⟩ := h))
theorem lenP_checked_lot : ∀ ds d, P_checked_lot ds d → ds.length = 2 := fun ds d h => by
  unfold P_checked_lot at h
  repeat (first | (obtain ⟨e, _⟩ := h; subst e; rfl) | (obtain ⟨_, h⟩ := h))
theorem lenP_checked_moved (K : PySem.W.Frag) : ∀ ds d, P_checked_moved K ds d → ds.length = 3 := fun ds d h => by
  unfold P_checked_moved at h
  repeat (first | (obtain ⟨e, _⟩ := h; subst e; rfl) | (obtain ⟨_, h⟩ := h))
theorem lenP_checked_fusing (K : PySem.W.Frag) : ∀ ds d, P_checked_fusing K ds d → ds.length = 6 := fun ds d h => by
  unfold P_checked_fusing at h
  repeat (first | (obtain ⟨e, _⟩ := h; subst e; rfl) | (obtain ⟨_, h⟩ := h))
theorem lenP_images_behind (K : PySem.W.Frag) : ∀ ds d, P_images_behind K ds d → ds.length = 4 := fun ds d h => by
  unfold P_images_behind at h
  repeat (first | (obtain ⟨e, _⟩ := h; subst e; rfl) | (obtain ⟨_, h⟩ := h))
theorem lenP_divided_edges (K : PySem.W.Frag) : ∀ ds d, P_divided_edges K ds d → ds.length = 5 := fun ds d h => by
  unfold P_divided_edges at h
  repeat (first | (obtain ⟨e, _⟩ := h; subst e; rfl) | (obtain ⟨_, h⟩ := h))
theorem lenP_fused (K : PySem.W.Frag) : ∀ ds d, P_fused K ds d → ds.length = 6 := fun ds d h => by
  unfold P_fused at h
  repeat (first | (obtain ⟨e, _⟩ := h; subst e; rfl) | (obtain ⟨_, h⟩ := h))
theorem lenP_divided (K : PySem.W.Frag) : ∀ ds d, P_divided K ds d → ds.length = 3 := fun ds d h => by
  unfold P_divided at h
  repeat (first | (obtain ⟨e, _⟩ := h; subst e; rfl) | (obtain ⟨_, h⟩ := h))
theorem lenP__law_parted : ∀ ds d, P__law_parted ds d → ds.length = 3 := fun ds d h => by
  unfold P__law_parted at h
  repeat (first | (obtain ⟨e, _⟩ := h; subst e; rfl) | (obtain ⟨_, h⟩ := h))
theorem lenP__law_whole : ∀ ds d, P__law_whole ds d → ds.length = 1 := fun ds d h => by
  unfold P__law_whole at h
  repeat (first | (obtain ⟨e, _⟩ := h; subst e; rfl) | (obtain ⟨_, h⟩ := h))
theorem lenP__law_wholes : ∀ ds d, P__law_wholes ds d → ds.length = 1 := fun ds d h => by
  unfold P__law_wholes at h
  repeat (first | (obtain ⟨e, _⟩ := h; subst e; rfl) | (obtain ⟨_, h⟩ := h))
theorem lenP__law_form (K : PySem.W.Frag) : ∀ ds d, P__law_form K ds d → ds.length = 1 := fun ds d h => by
  unfold P__law_form at h
  repeat (first | (obtain ⟨e, _⟩ := h; subst e; rfl) | (obtain ⟨_, h⟩ := h))
theorem lenP__law_colouring : ∀ ds d, P__law_colouring ds d → ds.length = 3 := fun ds d h => by
  unfold P__law_colouring at h
  repeat (first | (obtain ⟨e, _⟩ := h; subst e; rfl) | (obtain ⟨_, h⟩ := h))
theorem lenP__law_answered : ∀ ds d, P__law_answered ds d → ds.length = 2 := fun ds d h => by
  unfold P__law_answered at h
  repeat (first | (obtain ⟨e, _⟩ := h; subst e; rfl) | (obtain ⟨_, h⟩ := h))
theorem lenP__law_lot_right : ∀ ds d, P__law_lot_right ds d → ds.length = 6 := fun ds d h => by
  unfold P__law_lot_right at h
  repeat (first | (obtain ⟨e, _⟩ := h; subst e; rfl) | (obtain ⟨_, h⟩ := h))
theorem lenP_law : ∀ ds d, P_law ds d → ds.length = 1 := fun ds d h => by
  unfold P_law at h
  repeat (first | (obtain ⟨e, _⟩ := h; subst e; rfl) | (obtain ⟨_, h⟩ := h))
theorem gf_of {K : PySem.W.Frag} {mg : Str → Option Value} (T : Tx K mg fa fn exB) : GF K := by
  have hb : ∀ {a b : Bool}, (a && b) = true → a = true ∧ b = true := fun h => Bool.and_eq_true_iff.mp h
  obtain ⟨e1, e⟩ := hb T.ex
  obtain ⟨e2, e⟩ := hb e
  obtain ⟨e3, e⟩ := hb e
  obtain ⟨e4, e5⟩ := hb e
  exact ⟨T.cls 41, T.noat 43, T.noat 44, T.noat 45, ⟨T.cls 41, of_decide_eq_true e1, of_decide_eq_true e2, of_decide_eq_true e3, of_decide_eq_true e4, of_decide_eq_true e5⟩⟩
theorem facts {P : Program} {w : World} {K : PySem.W.Frag} {h : Heap} {mg : Str → Option Value} {f : Addr} (X : K.In h) (G : h.Ns mainGlobals mg) (hfa : mg ("law" : Str) = some (.ref f)) (c : obs fa fn K = (He.valD fn, true)) :
    ∃ fd : FuncData, (∀ (s : Shared) (v : Value), BindsTo s fd ⟨[v], []⟩ [("script", v)]) ∧ ∀ base : Heap, K.In base → base.Ns mainGlobals mg → L2.FnOk P w K mg base L2.CX0 30 f fd ["script"] (spF K P_law) := by
  have T : Tx K mg fa fn exB := ⟨⟨h, X, G⟩, congrArg Prod.fst c, congrArg Prod.snd c⟩
  have gf := gf_of T
  obtain ⟨fd, F⟩ := T.says.def_ 43 (d := d_law) rfl
  have hf : f = He.fAd K ("law", none) := by
    have := T.glo 39 (x := "law") rfl
    rw [hfa] at this
    injection this with this
    injection this
  subst hf
  refine ⟨fd, fun s v => FunD.bindsA (ps := ["script"]) F (fun _ _ _ _ _ _ us hl => match us, hl with | [_], _ => rfl) s [v] rfl, fun base hK hN => ?_⟩
  have G__law_source := ok__law_source (P := P) (w := w) (base := base) (sp := spF K P__law_source) T  r__law_source (spF_len lenP__law_source)
  have G__law_clique := ok__law_clique (P := P) (w := w) (base := base) (sp := spF K P__law_clique) T  r__law_clique (spF_len lenP__law_clique)
  have G__law_rim := ok__law_rim (P := P) (w := w) (base := base) (sp := spF K P__law_rim) T  r__law_rim (spF_len lenP__law_rim)
  have G__law_two_sides := ok__law_two_sides (P := P) (w := w) (base := base) (sp := spF K P__law_two_sides) T  r__law_two_sides (spF_len lenP__law_two_sides)
  have G__law_order := ok__law_order (P := P) (w := w) (base := base) (sp := spF K P__law_order) T  r__law_order (spF_len lenP__law_order)
  have G__law_mapped := ok__law_mapped (P := P) (w := w) (base := base) (sp := spF K P__law_mapped) T  r__law_mapped (spF_len lenP__law_mapped)
  have G__law_world := ok__law_world (P := P) (w := w) (base := base) (sp := spF K P__law_world) T G__law_source G__law_clique G__law_rim G__law_two_sides G__law_order G__law_mapped r__law_world (spF_len lenP__law_world)
  have G_checked_number := ok_checked_number (P := P) (w := w) (base := base) (sp := spF K P_checked_number) T  r_checked_number (spF_len lenP_checked_number)
  have G_checked_k := ok_checked_k (P := P) (w := w) (base := base) (sp := spF K P_checked_k) T G_checked_number r_checked_k (spF_len lenP_checked_k)
  have G_checked_node := ok_checked_node (P := P) (w := w) (base := base) (sp := spF K P_checked_node) T  r_checked_node (spF_len lenP_checked_node)
  have G_Graph_degree := ok_Graph_degree (P := P) (w := w) (base := base) (sp := spF K (P_Graph_degree K)) T G_checked_node (r_Graph_degree gf) (spF_len (lenP_Graph_degree K))
  have G_has_bare_node := ok_has_bare_node (P := P) (w := w) (base := base) (sp := spF K (P_has_bare_node K)) T G_Graph_degree (r_has_bare_node gf) (spF_len (lenP_has_bare_node K))
  have G__lower_neighbours := ok__lower_neighbours (P := P) (w := w) (base := base) (sp := spF K (P__lower_neighbours K)) T  (r__lower_neighbours gf) (spF_len (lenP__lower_neighbours K))
  have G__least_free := ok__least_free (P := P) (w := w) (base := base) (sp := spF K P__least_free) T  r__least_free (spF_len lenP__least_free)
  have G__visited := ok__visited (P := P) (w := w) (base := base) (sp := spF K (P__visited K)) T G__lower_neighbours G__least_free (r__visited gf) (spF_len (lenP__visited K))
  have G_first_colouring := ok_first_colouring (P := P) (w := w) (base := base) (sp := spF K (P_first_colouring K)) T G_checked_k G__visited (r_first_colouring gf) (spF_len (lenP_first_colouring K))
  have G_checked_pair := ok_checked_pair (P := P) (w := w) (base := base) (sp := spF K P_checked_pair) T G_checked_node r_checked_pair (spF_len lenP_checked_pair)
  have G_graph_edges := ok_graph_edges (P := P) (w := w) (base := base) (sp := spF K P_graph_edges) T G_checked_pair r_graph_edges (spF_len lenP_graph_edges)
  have G_graph_near := ok_graph_near (P := P) (w := w) (base := base) (sp := spF K P_graph_near) T  r_graph_near (spF_len lenP_graph_near)
  have G_Graph___init__ := ok_Graph___init__ (P := P) (w := w) (base := base) (sp := spIF K (GC K) gNs P_Graph_init) T G_checked_number G_graph_edges G_graph_near (r_Graph_init gf) (spIF_len lenP_Graph_init)
  have G_Graph_without_edge := ok_Graph_without_edge (P := P) (w := w) (base := base) (sp := spF K (P_Graph_without_edge K)) T G_checked_pair G_Graph___init__ (r_Graph_without_edge gf) (spF_len (lenP_Graph_without_edge K))
  have G_edge_colourings := ok_edge_colourings (P := P) (w := w) (base := base) (sp := spF K (P_edge_colourings K)) T G_has_bare_node G_first_colouring G_Graph_without_edge (r_edge_colourings gf) (spF_len (lenP_edge_colourings K))
  have G_is_critical := ok_is_critical (P := P) (w := w) (base := base) (sp := spF K (P_is_critical K)) T G_checked_k G_edge_colourings (r_is_critical gf) (spF_len (lenP_is_critical K))
  have G__law_lots := ok__law_lots (P := P) (w := w) (base := base) (sp := spF K P__law_lots) T  r__law_lots (spF_len lenP__law_lots)
  have G__law_beside := ok__law_beside (P := P) (w := w) (base := base) (sp := spF K P__law_beside) T  r__law_beside (spF_len lenP__law_beside)
  have G__law_picked := ok__law_picked (P := P) (w := w) (base := base) (sp := spF K P__law_picked) T G__law_lots G__law_beside r__law_picked (spF_len lenP__law_picked)
  have G__law_joined := ok__law_joined (P := P) (w := w) (base := base) (sp := spF K P__law_joined) T  r__law_joined (spF_len lenP__law_joined)
  have G_Graph_adjacent := ok_Graph_adjacent (P := P) (w := w) (base := base) (sp := spF K (P_Graph_adjacent K)) T G_checked_node (r_Graph_adjacent gf) (spF_len (lenP_Graph_adjacent K))
  have G_checked_size := ok_checked_size (P := P) (w := w) (base := base) (sp := spF K P_checked_size) T  r_checked_size (spF_len lenP_checked_size)
  have G_checked_lot := ok_checked_lot (P := P) (w := w) (base := base) (sp := spF K P_checked_lot) T G_checked_node r_checked_lot (spF_len lenP_checked_lot)
  have G_checked_moved := ok_checked_moved (P := P) (w := w) (base := base) (sp := spF K (P_checked_moved K)) T G_checked_node G_checked_size G_checked_lot G_Graph_adjacent G_Graph_degree (r_checked_moved gf) (spF_len (lenP_checked_moved K))
  have G_checked_fusing := ok_checked_fusing (P := P) (w := w) (base := base) (sp := spF K (P_checked_fusing K)) T G_checked_pair G_Graph_adjacent G_checked_moved G_checked_number (r_checked_fusing gf) (spF_len (lenP_checked_fusing K))
  have G_images_behind := ok_images_behind (P := P) (w := w) (base := base) (sp := spF K (P_images_behind K)) T  (r_images_behind gf) (spF_len (lenP_images_behind K))
  have G_divided_edges := ok_divided_edges (P := P) (w := w) (base := base) (sp := spF K (P_divided_edges K)) T  (r_divided_edges gf) (spF_len (lenP_divided_edges K))
  have G_fused := ok_fused (P := P) (w := w) (base := base) (sp := spF K (P_fused K)) T G_checked_fusing G_images_behind G_Graph_without_edge G_divided_edges G_Graph___init__ (r_fused gf) (spF_len (lenP_fused K))
  have G_divided := ok_divided (P := P) (w := w) (base := base) (sp := spF K (P_divided K)) T G_checked_moved G_checked_number G_Graph___init__ G_divided_edges (r_divided gf) (spF_len (lenP_divided K))
  have G__law_parted := ok__law_parted (P := P) (w := w) (base := base) (sp := spF K P__law_parted) T  r__law_parted (spF_len lenP__law_parted)
  have G__law_whole := ok__law_whole (P := P) (w := w) (base := base) (sp := spF K P__law_whole) T  r__law_whole (spF_len lenP__law_whole)
  have G__law_wholes := ok__law_wholes (P := P) (w := w) (base := base) (sp := spF K P__law_wholes) T G__law_whole r__law_wholes (spF_len lenP__law_wholes)
  have G__law_form := ok__law_form (P := P) (w := w) (base := base) (sp := spF K (P__law_form K)) T G__law_whole G__law_wholes (r__law_form gf) (spF_len (lenP__law_form K))
  have G__law_colouring := ok__law_colouring (P := P) (w := w) (base := base) (sp := spF K P__law_colouring) T  r__law_colouring (spF_len lenP__law_colouring)
  have G__law_answered := ok__law_answered (P := P) (w := w) (base := base) (sp := spF K P__law_answered) T G__law_wholes r__law_answered (spF_len lenP__law_answered)
  have G__law_lot_right := ok__law_lot_right (P := P) (w := w) (base := base) (sp := spF K P__law_lot_right) T G__law_joined G_Graph___init__ G_fused G_divided G__law_parted G__law_form G__law_colouring G__law_answered G_first_colouring G_is_critical G_Graph_without_edge (r__law_lot_right gf) (spF_len lenP__law_lot_right)
  exact (okF_law (sp := spF K P_law) T F G__law_world G_is_critical G_Graph___init__ G__law_picked G__law_source G__law_lot_right G__law_parted G__law_colouring (r_law gf wd_all) (spF_len lenP_law)).mono (by decide)
theorem rpA_int {K : PySem.W.Frag} {H : Hp} : ∀ ns : List Int, RpA K H (ns.map V.int) (ns.map D.int)
  | [] => .nil
  | n :: ns => .cons (.int n) (rpA_int ns)
theorem law_in {K : PySem.W.Frag} {H : Hp} {a : Addr} {ns : List Int} (hl : ns.length ≤ 63) (hS : L2.SqL K H a (ns.map L2.V.int)) : spF K P_law [.ref a] H (fun v _ => v = .bl true) (fun _ _ _ => False) :=
  ⟨.bl true, H, [.sq (ns.map D.int)], Ex.refl H, .cons (.sq hS (rpA_int ns)) .nil, ⟨ns, rfl, hl, rfl⟩, fun v d F2 H2 hR g r => by
    subst hR
    cases r
    rfl⟩
end HD
open PySem PySem.W PySem.Calls PyProof.Rows
theorem PySem.Challenge.cw_colourcritical_k60_whole_fused_exactly_holds : PySem.Challenge.rw_colourcritical_k60_whole_fused_exactly.Holds := by
  w_on; o_law
  refine HandSHeadRun.head_any (r := OpenLaw.row PySem.Challenge.rw_colourcritical_k60_whole_fused_exactly) (q := view (OpenLaw.row PySem.Challenge.rw_colourcritical_k60_whole_fused_exactly).prog [66]) (H := HD.hk) (ob := HD.ob) (M := 20000) (loose := HD.loose) (d := HandSHeadRun.topDef (OpenLaw.row PySem.Challenge.rw_colourcritical_k60_whole_fused_exactly).prog 66) (kwd := []) HD.ob_eq
    (by kernel_rfl) (fun s => by kernel_rfl) HD.run (by kernel_rfl) (by kernel_rfl) (by kernel_rfl) (by rfl) (by first | assumption | decide +kernel) (by decide +kernel) ⟨rfl, rfl, rfl, rfl, rfl, by decide +kernel⟩ ?hw ?hc
  case hw => w_witness2
  case hc =>
    refine L2.walk_ofE (l := PySem.Challenge.rw_colourcritical_k60_whole_fused_exactly) (n := 63) (k := 30) (x := "script") (CX := L2.CX0) rfl (by decide) (by kernel_rfl) ⟨rfl, by decide, by decide⟩ ?F (fun _ _ _ _ z => z)
    intro w mg fa h Y G hmg0
    obtain ⟨K, KX, c⟩ := Y
    have hmg : mg ("law" : PySem.Str) = some (.ref fa) := by
      have e : (HandSHeadRun.topDef (OpenLaw.row PySem.Challenge.rw_colourcritical_k60_whole_fused_exactly).prog 66).name = ("law" : PySem.Str) := by kernel_rfl
      rw [← e]
      exact hmg0
    obtain ⟨fd, hb, hF⟩ := HD.facts (P := (PySem.Challenge.rw_colourcritical_k60_whole_fused_exactly).prog) (w := w) KX G hmg c
    exact ⟨K, fd, _, KX, hb, fun H a ns hl hO hS => HD.law_in hl hS, hF⟩
