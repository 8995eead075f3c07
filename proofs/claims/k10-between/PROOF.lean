import PyProof.Rows.All
import HandS.ForMost
import HandS.Walk
import HandS.Deep
import HandS.Zip
import HandS.TupAny
import HandS.TupMul
import HandS.Style
import HandS.Strs
import HandS.SetFor
import HandS.Wide
import HandS.IsInst
import HandS.Flow
import KE.GoesEnum
import KE.KDictZip
import KE.KSortTupG
import KE.KTupSum
import HandS.ListItems
import HandS.Defaults
import PySem.Challenge.RW_saidcounts_k10_whole_rules_between
import HandS.Ends
import HandS.More
import HandS.WordsExc
import HandS.Head0
import HandS.Head1
import HandS.Head2
import HandS.HeadEnd
import HandS.HeadHook1
import HandS.HeadHook2
import HandS.Codes
set_option Elab.async false
set_option linter.all false
set_option maxRecDepth 100000
set_option maxHeartbeats 0
/-! ScMathA -/
/-! Words as lists of signs: runs, marks, cores, gaps, words said by rows. Plain Lean, no program in sight. -/
namespace Sc

def put (k : Nat → Nat) (x c : Nat) : Nat → Nat := fun y => if y = x then c else k y
theorem put_same {k : Nat → Nat} {x c : Nat} : put k x c x = c := if_pos rfl
theorem put_ne {k : Nat → Nat} {x c y : Nat} (h : y ≠ x) : put k x c y = k y := if_neg h
theorem put_put {k : Nat → Nat} {x c d : Nat} : put (put k x c) x d = put k x d := by
  funext y
  unfold put
  by_cases h : y = x
  · rw [if_pos h, if_pos h]
  · rw [if_neg h, if_neg h, if_neg h]

/-- (letter, count behind the run) of the runs, k the counts ahead -/
def ends : (Nat → Nat) → List Nat → List (Nat × Nat)
  | _, [] => []
  | k, x :: r => if r.head? = some x then ends (put k x (k x + 1)) r else (x, k x + 1) :: ends (put k x (k x + 1)) r
def made : (Nat → Nat) → List (Nat × Nat) → List Nat
  | _, [] => []
  | k, e :: r => List.replicate (e.2 - k e.1) e.1 ++ made (put k e.1 e.2) r
def Val : (Nat → Nat) → Option Nat → List (Nat × Nat) → Prop
  | _, _, [] => True
  | k, p, e :: r => some e.1 ≠ p ∧ k e.1 < e.2 ∧ Val (put k e.1 e.2) (some e.1) r
def k0 : Nat → Nat := fun _ => 0

theorem ends_head : ∀ (r : List Nat) (k : Nat → Nat) (x : Nat), ∃ c L, ends k (x :: r) = (x, c) :: L ∧ k x < c
  | [], k, x => ⟨k x + 1, [], by simp [ends], by omega⟩
  | y :: s, k, x => by
    by_cases h : y = x
    · subst h
      obtain ⟨c, L, e, hc⟩ := ends_head s (put k y (k y + 1)) y
      refine ⟨c, L, ?_, ?_⟩
      · rw [← e]
        conv => lhs; unfold ends
        simp
      · rw [put_same] at hc
        omega
    · refine ⟨k x + 1, ends (put k x (k x + 1)) (y :: s), ?_, by omega⟩
      conv => lhs; unfold ends
      simp [h]
theorem ends_val : ∀ (w : List Nat) (k : Nat → Nat) (p : Option Nat), (∀ x, w.head? = some x → some x ≠ p) → Val k p (ends k w)
  | [], _, _, _ => by simp [ends, Val]
  | x :: r, k, p, h => by
    have hx : some x ≠ p := h x rfl
    by_cases hr : r.head? = some x
    · have ih := ends_val r (put k x (k x + 1)) p (fun y hy => by rw [hr] at hy; cases hy; exact hx)
      obtain ⟨s, rfl⟩ : ∃ s, r = x :: s := by
        cases r with
        | nil => simp at hr
        | cons y s => simp at hr; exact ⟨s, by rw [hr]⟩
      obtain ⟨c, L, e, hc⟩ := ends_head s (put k x (k x + 1)) x
      unfold ends
      rw [if_pos hr]
      rw [e] at ih ⊢
      obtain ⟨_, h2, h3⟩ := ih
      refine ⟨hx, ?_, ?_⟩
      · show k x < c
        rw [put_same] at hc
        omega
      · show Val (put k x c) (some x) L
        rw [put_put] at h3
        exact h3
    · unfold ends
      rw [if_neg hr]
      exact ⟨hx, Nat.lt_succ_self _, ends_val r _ _ fun y hy e => hr (by rw [hy, e])⟩
theorem made_ends : ∀ (w : List Nat) (k : Nat → Nat), made k (ends k w) = w
  | [], _ => by simp [ends, made]
  | x :: r, k => by
    have ih := made_ends r (put k x (k x + 1))
    by_cases hr : r.head? = some x
    · obtain ⟨s, rfl⟩ : ∃ s, r = x :: s := by
        cases r with
        | nil => simp at hr
        | cons y s => simp at hr; exact ⟨s, by rw [hr]⟩
      obtain ⟨c, L, e, hc⟩ := ends_head s (put k x (k x + 1)) x
      conv => lhs; unfold ends
      rw [if_pos hr]
      rw [e] at ih ⊢
      unfold made at ih ⊢
      rw [put_same] at hc
      rw [put_put, put_same] at ih
      show List.replicate (c - k x) x ++ made (put k x c) L = _
      rw [show c - k x = (c - (k x + 1)) + 1 by omega, List.replicate_succ, List.cons_append]
      congr 1
    · conv => lhs; unfold ends
      rw [if_neg hr]
      unfold made
      show List.replicate (k x + 1 - k x) x ++ made (put k x (k x + 1)) _ = _
      rw [ih, show k x + 1 - k x = 1 by omega]
      rfl
theorem ends_rep : ∀ (n : Nat) (k : Nat → Nat) (x : Nat) (w : List Nat), w.head? ≠ some x → ends k (List.replicate (n + 1) x ++ w) = (x, k x + (n + 1)) :: ends (put k x (k x + (n + 1))) w
  | 0, k, x, w, h => by
    show ends k (x :: w) = _
    conv => lhs; unfold ends
    rw [if_neg h]
  | n + 1, k, x, w, h => by
    have ih := ends_rep n (put k x (k x + 1)) x w h
    rw [List.replicate_succ, List.cons_append]
    conv => lhs; unfold ends
    rw [if_pos (by rw [List.replicate_succ, List.cons_append] <;> rfl), ih, put_same, put_put, show k x + 1 + (n + 1) = k x + (n + 1 + 1) by omega]
theorem made_head {k : Nat → Nat} {e : Nat × Nat} {r : List (Nat × Nat)} (h : k e.1 < e.2) : (made k (e :: r)).head? = some e.1 := by
  unfold made
  rw [show e.2 - k e.1 = (e.2 - k e.1 - 1) + 1 by omega, List.replicate_succ]
  rfl
theorem ends_made : ∀ (L : List (Nat × Nat)) (k : Nat → Nat) (p : Option Nat), Val k p L → ends k (made k L) = L
  | [], _, _, _ => by simp [made, ends]
  | e :: r, k, p, h => by
    obtain ⟨_, h2, h3⟩ := h
    have ih := ends_made r _ _ h3
    have hh : (made (put k e.1 e.2) r).head? ≠ some e.1 := by
      cases r with
      | nil => simp [made]
      | cons f s =>
        obtain ⟨g1, g2, _⟩ := h3
        rw [made_head g2]
        exact g1
    unfold made
    rw [show e.2 - k e.1 = (e.2 - k e.1 - 1) + 1 by omega, ends_rep _ _ _ _ hh, show k e.1 + (e.2 - k e.1 - 1 + 1) = e.2 by omega, ih]
theorem ends_made0 {L : List (Nat × Nat)} (h : Val k0 none L) : ends k0 (made k0 L) = L := ends_made L k0 none h
theorem ends_val0 (w : List Nat) : Val k0 none (ends k0 w) := ends_val w k0 none fun _ _ h => by cases h
theorem ends_mem : ∀ (w : List Nat) (k : Nat → Nat) (e : Nat × Nat), e ∈ ends k w → e.1 ∈ w
  | [], _, _, h => by simp [ends] at h
  | x :: r, k, e, h => by
    unfold ends at h
    by_cases hr : r.head? = some x
    · rw [if_pos hr] at h
      exact List.mem_cons_of_mem _ (ends_mem r _ e h)
    · rw [if_neg hr] at h
      rcases List.mem_cons.mp h with rfl | h
      · exact List.mem_cons_self
      · exact List.mem_cons_of_mem _ (ends_mem r _ e h)
theorem made_mem : ∀ (L : List (Nat × Nat)) (k : Nat → Nat) (x : Nat), x ∈ made k L → ∃ e ∈ L, e.1 = x
  | [], _, _, h => by simp [made] at h
  | e :: r, k, x, h => by
    unfold made at h
    rcases List.mem_append.mp h with h | h
    · exact ⟨e, List.mem_cons_self, (List.eq_of_mem_replicate h).symm⟩
    · obtain ⟨f, hf, e1⟩ := made_mem r _ x h
      exact ⟨f, List.mem_cons_of_mem _ hf, e1⟩
theorem ends_pos : ∀ (w : List Nat) (k : Nat → Nat) (e : Nat × Nat), e ∈ ends k w → 1 ≤ e.2
  | [], _, _, h => by simp [ends] at h
  | x :: r, k, e, h => by
    unfold ends at h
    by_cases hr : r.head? = some x
    · rw [if_pos hr] at h
      exact ends_pos r _ e h
    · rw [if_neg hr] at h
      rcases List.mem_cons.mp h with rfl | h
      · exact Nat.succ_le_succ (Nat.zero_le _)
      · exact ends_pos r _ e h

/-! ### counts changed by a function -/
def mapc (P : Nat → Nat) (L : List (Nat × Nat)) : List (Nat × Nat) := L.map fun e => (e.1, P e.2)
theorem comp_put {P k : Nat → Nat} {x c : Nat} : (fun y => P (put k x c y)) = put (fun y => P (k y)) x (P c) := by
  funext y
  unfold put
  by_cases h : y = x
  · rw [if_pos h, if_pos h]
  · rw [if_neg h, if_neg h]
theorem val_mapc {P : Nat → Nat} {S : Nat → Prop} (hm : ∀ a b, S a → S b → a < b → P a < P b) : ∀ (L : List (Nat × Nat)) (k : Nat → Nat) (p : Option Nat), (∀ x, S (k x)) → (∀ e ∈ L, S e.2) → Val k p L → Val (fun x => P (k x)) p (mapc P L)
  | [], _, _, _, _, _ => by simp [mapc, Val]
  | e :: r, k, p, hk, hL, h => by
    obtain ⟨h1, h2, h3⟩ := h
    have he : S e.2 := hL e List.mem_cons_self
    refine ⟨h1, hm _ _ (hk _) he h2, ?_⟩
    have hk' : ∀ x, S (put k e.1 e.2 x) := fun x => by
      unfold put
      by_cases hx : x = e.1
      · rw [if_pos hx]; exact he
      · rw [if_neg hx]; exact hk x
    have ih := val_mapc hm r (put k e.1 e.2) (some e.1) hk' (fun f hf => hL f (List.mem_cons_of_mem _ hf)) h3
    rw [comp_put] at ih
    exact ih
theorem made_len_le {P : Nat → Nat} {B : Nat} (hP : ∀ a b, a ≤ b → P b - P a ≤ B * (b - a)) (hm : ∀ a b, a ≤ b → P a ≤ P b) : ∀ (L : List (Nat × Nat)) (k : Nat → Nat), (made (fun x => P (k x)) (mapc P L)).length ≤ B * (made k L).length
  | [], _ => by simp [mapc, made]
  | e :: r, k => by
    have ih := made_len_le hP hm r (put k e.1 e.2)
    rw [comp_put] at ih
    show (List.replicate (P e.2 - P (k e.1)) e.1 ++ made (put (fun x => P (k x)) e.1 (P e.2)) (mapc P r)).length ≤ B * (List.replicate (e.2 - k e.1) e.1 ++ made (put k e.1 e.2) r).length
    rw [List.length_append, List.length_append, List.length_replicate, List.length_replicate, Nat.mul_add]
    refine Nat.add_le_add ?_ ih
    by_cases h : k e.1 ≤ e.2
    · exact hP _ _ h
    · have := hm e.2 (k e.1) (by omega)
      rw [show P e.2 - P (k e.1) = 0 by omega]
      exact Nat.zero_le _

/-! ### ascending lists -/
def Asc (l : List Nat) : Prop := l.Pairwise (· < ·)
theorem asc_ext : ∀ {l m : List Nat}, Asc l → Asc m → (∀ x, x ∈ l ↔ x ∈ m) → l = m
  | [], [], _, _, _ => rfl
  | [], y :: m, _, _, h => absurd ((h y).mpr List.mem_cons_self) (by simp)
  | x :: l, [], _, _, h => absurd ((h x).mp List.mem_cons_self) (by simp)
  | x :: l, y :: m, hl, hm, h => by
    obtain ⟨l1, l2⟩ := List.pairwise_cons.mp hl
    obtain ⟨m1, m2⟩ := List.pairwise_cons.mp hm
    have e : x = y := by
      rcases List.mem_cons.mp ((h x).mp List.mem_cons_self) with e | hx
      · exact e
      · rcases List.mem_cons.mp ((h y).mpr List.mem_cons_self) with e | hy
        · exact e.symm
        · have a := m1 x hx
          have b := l1 y hy
          omega
    subst e
    have e2 : l = m := asc_ext l2 m2 fun z => by
      refine ⟨fun hz => ?_, fun hz => ?_⟩
      · rcases List.mem_cons.mp ((h z).mp (List.mem_cons_of_mem _ hz)) with e | q
        · have := l1 z hz
          omega
        · exact q
      · rcases List.mem_cons.mp ((h z).mpr (List.mem_cons_of_mem _ hz)) with e | q
        · have := m1 z hz
          omega
        · exact q
    rw [e2]
theorem asc_lt {l : List Nat} (h : Asc l) {i j x y : Nat} (hi : l[i]? = some x) (hj : l[j]? = some y) (hij : i < j) : x < y := by
  obtain ⟨a, ea⟩ := List.getElem?_eq_some_iff.mp hi
  obtain ⟨b, eb⟩ := List.getElem?_eq_some_iff.mp hj
  have := List.pairwise_iff_getElem.mp h i j a b hij
  rw [ea, eb] at this
  exact this
theorem idx_get {l : List Nat} {x : Nat} (h : x ∈ l) : l[l.idxOf x]? = some x := by
  have a : l.idxOf x < l.length := List.idxOf_lt_length_iff.mpr h
  rw [List.getElem?_eq_getElem a, List.getElem_idxOf]
theorem idx_mono {l : List Nat} (h : Asc l) {x y : Nat} (hx : x ∈ l) (hy : y ∈ l) (hxy : x < y) : l.idxOf x < l.idxOf y := by
  rcases Nat.lt_or_ge (l.idxOf x) (l.idxOf y) with q | q
  · exact q
  · exfalso
    rcases Nat.lt_or_ge (l.idxOf y) (l.idxOf x) with r | r
    · have := asc_lt h (idx_get hy) (idx_get hx) r
      omega
    · have e : l.idxOf x = l.idxOf y := by omega
      have a := idx_get hx
      rw [e, idx_get hy] at a
      cases a
      omega
theorem idx_of_get {l : List Nat} (h : Asc l) {i x : Nat} (hi : l[i]? = some x) : l.idxOf x = i := by
  have hx : x ∈ l := List.mem_of_getElem? hi
  have a := idx_get hx
  rcases Nat.lt_trichotomy (l.idxOf x) i with q | q | q
  · have := asc_lt h a hi q
    omega
  · exact q
  · have := asc_lt h hi a q
    omega
theorem asc_map_idx {l : List Nat} (h : Asc l) : l.map l.idxOf = List.range l.length := by
  apply List.ext_getElem?
  intro i
  rw [List.getElem?_map]
  by_cases hi : i < l.length
  · rw [List.getElem?_range hi, List.getElem?_eq_getElem hi]
    show some (l.idxOf l[i]) = some i
    rw [idx_of_get h (List.getElem?_eq_getElem hi)]
  · rw [List.getElem?_eq_none (by omega), List.getElem?_eq_none (by rw [List.length_range]; omega)]
    rfl

/-! ### marks -/
/-- 0 and some counts, ascending, each once -/
def mk (cs : List Nat) : List Nat := (List.range (cs.foldr max 0 + 1)).filter fun j => decide (j = 0 ∨ j ∈ cs)
theorem le_fold : ∀ {cs : List Nat} {c : Nat}, c ∈ cs → c ≤ cs.foldr max 0
  | d :: cs, c, h => by
    rw [List.foldr_cons]
    rcases List.mem_cons.mp h with rfl | h
    · exact Nat.le_max_left _ _
    · exact Nat.le_trans (le_fold h) (Nat.le_max_right _ _)
theorem mk_mem {cs : List Nat} {j : Nat} : j ∈ mk cs ↔ j = 0 ∨ j ∈ cs := by
  unfold mk
  rw [List.mem_filter, List.mem_range, decide_eq_true_eq]
  refine ⟨fun h => h.2, fun h => ⟨?_, h⟩⟩
  rcases h with rfl | h
  · omega
  · have := le_fold h
    omega
theorem mk_asc (cs : List Nat) : Asc (mk cs) := List.Pairwise.filter _ List.pairwise_lt_range
theorem mk_uniq {cs l : List Nat} (h : Asc l) (hm : ∀ j, j ∈ l ↔ j = 0 ∨ j ∈ cs) : l = mk cs := asc_ext h (mk_asc cs) fun j => (hm j).trans mk_mem.symm
theorem mk_cons (cs : List Nat) : ∃ r, mk cs = 0 :: r := by
  unfold mk
  rw [Nat.add_comm, List.range_add]
  exact ⟨_, rfl⟩
theorem mk_zero (cs : List Nat) : (mk cs).idxOf 0 = 0 := by
  obtain ⟨r, e⟩ := mk_cons cs
  rw [e]
  simp
theorem mk_map {P : Nat → Nat} {cs : List Nat} (h0 : P 0 = 0) (hm : ∀ a b, (a = 0 ∨ a ∈ cs) → (b = 0 ∨ b ∈ cs) → a < b → P a < P b) : mk (cs.map P) = (mk cs).map P := by
  refine (mk_uniq ?_ fun j => ?_).symm
  · refine List.pairwise_map.mpr ((mk_asc cs).imp_of_mem fun {a b} ha hb hab => ?_)
    exact hm a b (mk_mem.mp ha) (mk_mem.mp hb) hab
  · rw [List.mem_map, List.mem_map]
    refine ⟨fun ⟨a, ha, e⟩ => ?_, fun h => ?_⟩
    · rcases mk_mem.mp ha with z | z
      · rw [z, h0] at e
        exact .inl e.symm
      · exact .inr ⟨a, z, e⟩
    · rcases h with z | ⟨a, ha, e⟩
      · exact ⟨0, mk_mem.mpr (.inl rfl), by rw [h0, z]⟩
      · exact ⟨a, mk_mem.mpr (.inr ha), e⟩
def cnts (L : List (Nat × Nat)) : List Nat := L.map (·.2)
theorem cnts_mapc (P : Nat → Nat) (L : List (Nat × Nat)) : cnts (mapc P L) = (cnts L).map P := by
  unfold cnts mapc
  rw [List.map_map, List.map_map]
  rfl
theorem mem_cnts {L : List (Nat × Nat)} {e : Nat × Nat} (h : e ∈ L) : e.2 ∈ cnts L := List.mem_map.mpr ⟨e, h, rfl⟩
def marks (w : List Nat) : List Nat := mk (cnts (ends k0 w))
def rank (w : List Nat) (c : Nat) : Nat := (marks w).idxOf c
theorem rank0 (w : List Nat) : rank w 0 = 0 := mk_zero _
theorem marks_asc (w : List Nat) : Asc (marks w) := mk_asc _
theorem mem_marks {w : List Nat} {e : Nat × Nat} (h : e ∈ ends k0 w) : e.2 ∈ marks w := mk_mem.mpr (.inr (mem_cnts h))
theorem zero_marks (w : List Nat) : 0 ∈ marks w := mk_mem.mpr (.inl rfl)
theorem marks_cons (w : List Nat) : ∃ r, marks w = 0 :: r := mk_cons _
/-- a word whose counts are changed by a function that rises from 0 on -/
theorem ends_grow {P : Nat → Nat} {w : List Nat} (h0 : P 0 = 0) (hm : ∀ a b, a ∈ marks w → b ∈ marks w → a < b → P a < P b) : ends k0 (made k0 (mapc P (ends k0 w))) = mapc P (ends k0 w) := by
  have v := val_mapc (S := fun a => a ∈ marks w) hm (ends k0 w) k0 none (fun _ => zero_marks w) (fun e he => mem_marks he) (ends_val0 w)
  have e : (fun x => P (k0 x)) = k0 := funext fun _ => h0
  rw [e] at v
  exact ends_made0 v
theorem marks_grow {P : Nat → Nat} {w : List Nat} (h0 : P 0 = 0) (hm : ∀ a b, a ∈ marks w → b ∈ marks w → a < b → P a < P b) : marks (made k0 (mapc P (ends k0 w))) = (marks w).map P := by
  unfold marks
  rw [ends_grow h0 hm, cnts_mapc]
  exact mk_map h0 fun a b ha hb => hm a b (mk_mem.mpr ha) (mk_mem.mpr hb)

/-! ### cores -/
def core (w : List Nat) : List Nat := made k0 (mapc (rank w) (ends k0 w))
theorem rank_mono (w : List Nat) : ∀ a b, a ∈ marks w → b ∈ marks w → a < b → rank w a < rank w b := fun _ _ ha hb h => idx_mono (marks_asc w) ha hb h
theorem ends_core (w : List Nat) : ends k0 (core w) = mapc (rank w) (ends k0 w) := ends_grow (rank0 w) (rank_mono w)
theorem marks_core (w : List Nat) : marks (core w) = List.range (marks w).length := by
  have e := marks_grow (rank0 w) (rank_mono w)
  unfold core
  rw [e]
  exact asc_map_idx (marks_asc w)
theorem cores_len {u v : List Nat} (h : core u = core v) : (marks u).length = (marks v).length := by
  have a := marks_core u
  rw [h, marks_core v] at a
  have b := congrArg List.length a
  simpa using b.symm

/-! ### gaps -/
def diffs : List Nat → List Nat
  | a :: b :: r => (b - a) :: diffs (b :: r)
  | _ => []
theorem diffs_len : ∀ l : List Nat, (diffs l).length = l.length - 1
  | [] => rfl
  | [_] => rfl
  | a :: b :: r => by
    show (diffs (b :: r)).length + 1 = _
    rw [diffs_len (b :: r)]
    simp
theorem diffs_get : ∀ (l : List Nat) (i a b : Nat), l[i]? = some a → l[i + 1]? = some b → (diffs l)[i]? = some (b - a)
  | [], _, _, _, h, _ => by simp at h
  | [_], i, _, _, _, h => by simp at h
  | x :: y :: r, 0, a, b, h1, h2 => by
    have e1 : x = a := Option.some.inj h1
    have e2 : y = b := Option.some.inj h2
    rw [← e1, ← e2]
    rfl
  | x :: y :: r, i + 1, a, b, h1, h2 => diffs_get (y :: r) i a b h1 h2
theorem diffs_pos : ∀ {l : List Nat}, Asc l → ∀ d ∈ diffs l, 1 ≤ d
  | [], _, d, h => by simp [diffs] at h
  | [_], _, d, h => by simp [diffs] at h
  | a :: b :: r, hl, d, h => by
    obtain ⟨h1, h2⟩ := List.pairwise_cons.mp hl
    have := h1 b List.mem_cons_self
    rcases List.mem_cons.mp h with rfl | h
    · omega
    · exact diffs_pos h2 d h
def gaps (w : List Nat) : List Nat := diffs (marks w)
theorem gaps_pos (w : List Nat) : ∀ d ∈ gaps w, 1 ≤ d := diffs_pos (marks_asc w)
theorem gaps_len (w : List Nat) : (gaps w).length = (marks w).length - 1 := diffs_len _
/-- the last mark -/
def last (w : List Nat) : Nat := (gaps w).sum
theorem diffs_sum : ∀ {l : List Nat} {a : Nat}, Asc (a :: l) → ∀ z, (a :: l).getLast? = some z → a + (diffs (a :: l)).sum = z
  | [], a, _, z, h => by
    have e : a = z := by simpa using h
    simp [diffs, e]
  | b :: r, a, hl, z, h => by
    obtain ⟨h1, h2⟩ := List.pairwise_cons.mp hl
    have := h1 b List.mem_cons_self
    rw [List.getLast?_cons_cons] at h
    have ih := diffs_sum h2 z h
    show a + ((b - a) :: diffs (b :: r)).sum = z
    rw [List.sum_cons]
    omega
theorem marks_last (w : List Nat) : (marks w).getLast? = some (last w) := by
  obtain ⟨r, e⟩ := marks_cons w
  have ha := marks_asc w
  unfold last gaps
  rw [e] at ha ⊢
  have q := diffs_sum ha ((0 :: r).getLast (List.cons_ne_nil _ _)) (List.getLast?_eq_some_getLast (List.cons_ne_nil _ _))
  rw [Nat.zero_add] at q
  rw [q, List.getLast?_eq_some_getLast (List.cons_ne_nil _ _)]
theorem le_last {w : List Nat} {c : Nat} (h : c ∈ marks w) : c ≤ last w := by
  have q := marks_last w
  rw [List.getLast?_eq_getElem?] at q
  have a := idx_get h
  obtain ⟨hl, _⟩ := List.getElem?_eq_some_iff.mp a
  rcases Nat.lt_or_ge ((marks w).idxOf c) ((marks w).length - 1) with z | z
  · exact Nat.le_of_lt (asc_lt (marks_asc w) a q z)
  · rw [show (marks w).length - 1 = (marks w).idxOf c by omega, a] at q
    cases q
    exact Nat.le_refl _

/-! ### sums of the first numbers -/
def psum (t : List Nat) (j : Nat) : Nat := (t.take j).sum
theorem psum0 (t : List Nat) : psum t 0 = 0 := rfl
theorem sum_take_drop (t : List Nat) (a b : Nat) : psum t (a + b) = psum t a + psum (t.drop a) b := by
  unfold psum
  rw [List.take_add, List.sum_append_nat]
theorem psum_succ (t : List Nat) (j : Nat) : psum t (j + 1) = psum t j + t.getD j 0 := by
  rw [sum_take_drop]
  congr 1
  unfold psum
  rw [List.getD_eq_getElem?_getD]
  cases h : t[j]? with
  | none =>
    rw [List.drop_eq_nil_of_le (List.getElem?_eq_none_iff.mp h)]
    rfl
  | some x =>
    obtain ⟨hj, e⟩ := List.getElem?_eq_some_iff.mp h
    rw [List.drop_eq_getElem_cons hj, e]
    simp
theorem psum_mono (t : List Nat) : ∀ a b, a ≤ b → psum t a ≤ psum t b := fun a b h => by
  obtain ⟨d, rfl⟩ := Nat.le.dest h
  rw [sum_take_drop]
  omega
theorem psum_lt {t : List Nat} (hp : ∀ x ∈ t, 1 ≤ x) {a b : Nat} (hb : b ≤ t.length) (h : a < b) : psum t a < psum t b := by
  have h1 := psum_succ t a
  have h2 := psum_mono t (a + 1) b h
  have ha : a < t.length := by omega
  have h3 : 1 ≤ t.getD a 0 := by
    rw [List.getD_eq_getElem?_getD, List.getElem?_eq_getElem ha]
    exact hp _ (List.getElem_mem ha)
  omega
theorem psum_slope {t : List Nat} {B : Nat} (hB : ∀ x ∈ t, x ≤ B) (a b : Nat) (h : a ≤ b) : psum t b - psum t a ≤ B * (b - a) := by
  obtain ⟨d, rfl⟩ := Nat.le.dest h
  clear h
  induction d with
  | zero => simp
  | succ d ih =>
    have e := psum_succ t (a + d)
    have g : t.getD (a + d) 0 ≤ B := by
      rw [List.getD_eq_getElem?_getD]
      cases q : t[a + d]? with
      | none => exact Nat.zero_le _
      | some x => exact hB x (List.mem_of_getElem? q)
    rw [show a + (d + 1) = a + d + 1 by omega, e]
    rw [show a + d - a = d by omega] at ih
    rw [show a + d + 1 - a = d + 1 by omega, Nat.mul_succ]
    omega
theorem diffs_psum : ∀ (t : List Nat) (a : Nat), diffs ((List.range (t.length + 1)).map fun j => a + psum t j) = t
  | [], a => by simp [diffs]
  | x :: t, a => by
    have ih := diffs_psum t (a + x)
    have e : (List.range ((x :: t).length + 1)).map (fun j => a + psum (x :: t) j) = a :: (List.range (t.length + 1)).map fun j => a + x + psum t j := by
      rw [List.length_cons, List.range_succ_eq_map, List.map_cons, List.map_map]
      congr 1
      apply List.map_congr_left
      intro j _
      show a + psum (x :: t) (j + 1) = _
      unfold psum
      rw [List.take_succ_cons, List.sum_cons]
      omega
    rw [e]
    obtain ⟨r, er⟩ : ∃ r, (List.range (t.length + 1)).map (fun j => a + x + psum t j) = (a + x) :: r := by
      rw [List.range_succ_eq_map, List.map_cons]
      exact ⟨_, rfl⟩
    rw [er] at ih ⊢
    show (a + x - a) :: diffs ((a + x) :: r) = _
    rw [ih, show a + x - a = x by omega]

/-! ### words grown from a core -/
def grown (b ws : List Nat) : List Nat := made k0 (mapc (psum ws) (ends k0 b))
theorem core_marks_lt {u : List Nat} {c : Nat} (h : c ∈ marks (core u)) : c ≤ (gaps (core u)).length := by
  rw [gaps_len]
  rw [marks_core, List.mem_range] at h
  rw [marks_core, List.length_range]
  omega
theorem gaps_grown {u ws : List Nat} (hl : ws.length = (gaps (core u)).length) (hp : ∀ x ∈ ws, 1 ≤ x) : gaps (grown (core u) ws) = ws := by
  have m : marks (grown (core u) ws) = (marks (core u)).map (psum ws) := marks_grow (psum0 ws) fun a b _ hb hab => psum_lt hp (by rw [hl]; exact core_marks_lt hb) hab
  unfold gaps
  rw [m, marks_core]
  rw [gaps_len, marks_core, List.length_range] at hl
  obtain ⟨r, er⟩ := marks_cons u
  have h1 : (marks u).length = ws.length + 1 := by
    rw [hl, er]
    simp
  rw [h1]
  have q := diffs_psum ws 0
  simp only [Nat.zero_add] at q
  exact q
theorem grown_len {b ws : List Nat} {B : Nat} (hB : ∀ x ∈ ws, x ≤ B) : (grown b ws).length ≤ B * b.length := by
  have q := made_len_le (P := psum ws) (psum_slope hB) (psum_mono ws) (ends k0 b) k0
  have e : (fun x => psum ws (k0 x)) = k0 := rfl
  rw [e, made_ends] at q
  exact q
theorem grown_mem {b ws : List Nat} {x : Nat} (h : x ∈ grown b ws) : x ∈ b := by
  obtain ⟨e, he, rfl⟩ := made_mem _ _ _ h
  obtain ⟨f, hf, rfl⟩ := List.mem_map.mp he
  exact ends_mem b k0 f hf
theorem core_mem {w : List Nat} {x : Nat} (h : x ∈ core w) : x ∈ w := by
  obtain ⟨e, he, rfl⟩ := made_mem _ _ _ h
  obtain ⟨f, hf, rfl⟩ := List.mem_map.mp he
  exact ends_mem w k0 f hf

/-! ### words said by a row -/
def sd (t : List Nat) : (Nat → Nat) → List Nat → List Nat
  | _, [] => []
  | k, x :: r => List.replicate (t.getD (k x) 0) x ++ sd t (put k x (k x + 1)) r
theorem sd_made (t : List Nat) : ∀ (w : List Nat) (k : Nat → Nat), sd t k w = made (fun x => psum t (k x)) (mapc (psum t) (ends k w))
  | [], _ => by simp [sd, ends, mapc, made]
  | x :: r, k => by
    have ih := sd_made t r (put k x (k x + 1))
    unfold sd
    rw [ih]
    have ps := psum_succ t (k x)
    by_cases hr : r.head? = some x
    · obtain ⟨s, rfl⟩ : ∃ s, r = x :: s := by
        cases r with
        | nil => simp at hr
        | cons y s => simp at hr; exact ⟨s, by rw [hr]⟩
      obtain ⟨c, L, e, hc⟩ := ends_head s (put k x (k x + 1)) x
      conv => rhs; unfold ends
      rw [if_pos hr, e, comp_put]
      rw [put_same] at hc
      have mo := psum_mono t (k x + 1) c (by omega)
      show List.replicate (t.getD (k x) 0) x ++ (List.replicate (psum t c - put (fun y => psum t (k y)) x (psum t (k x + 1)) x) x ++ made (put (put (fun y => psum t (k y)) x (psum t (k x + 1))) x (psum t c)) (mapc (psum t) L)) = List.replicate (psum t c - psum t (k x)) x ++ made (put (fun y => psum t (k y)) x (psum t c)) (mapc (psum t) L)
      rw [put_put, put_same, ← List.append_assoc, List.replicate_append_replicate]
      congr 2
      omega
    · conv => rhs; unfold ends
      rw [if_neg hr, comp_put]
      show _ = List.replicate (psum t (k x + 1) - psum t (k x)) x ++ made (put (fun y => psum t (k y)) x (psum t (k x + 1))) _
      rw [show psum t (k x + 1) - psum t (k x) = t.getD (k x) 0 by omega]
      rfl
theorem sd_made0 (t w : List Nat) : sd t k0 w = made k0 (mapc (psum t) (ends k0 w)) := sd_made t w k0
/-- what a row says has the marks that the row's sums put -/
theorem sd_marks {t w : List Nat} (hp : ∀ x ∈ t, 1 ≤ x) (hl : t.length = last w) : ends k0 (sd t k0 w) = mapc (psum t) (ends k0 w) ∧ marks (sd t k0 w) = (marks w).map (psum t) := by
  have hm : ∀ a b, a ∈ marks w → b ∈ marks w → a < b → psum t a < psum t b := fun a b _ hb hab => psum_lt hp (by rw [hl]; exact le_last hb) hab
  rw [sd_made0]
  exact ⟨ends_grow (psum0 t) hm, marks_grow (psum0 t) hm⟩
theorem map_via {α β γ : Type} {f : α → γ} {g : β → γ} {h : α → β} : ∀ {l : List α} {m : List β}, l.map f = m.map g → (∀ a ∈ l, ∀ b ∈ m, f a = g b → h a = b) → l.map h = m
  | [], [], _, _ => rfl
  | [], _ :: _, e, _ => by simp at e
  | _ :: _, [], e, _ => by simp at e
  | a :: l, b :: m, e, q => by
    rw [List.map_cons, List.map_cons] at e
    obtain ⟨e1, e2⟩ := List.cons.inj e
    rw [List.map_cons, q a List.mem_cons_self b List.mem_cons_self e1, map_via e2 fun x hx y hy => q x (List.mem_cons_of_mem _ hx) y (List.mem_cons_of_mem _ hy)]
theorem sd_of_marks {t u v : List Nat} (hc : core u = core v) (hm : (marks u).map (psum t) = marks v) : sd t k0 u = v := by
  rw [sd_made0]
  have e := ends_core u
  rw [hc, ends_core v] at e
  have q : mapc (psum t) (ends k0 u) = ends k0 v := by
    unfold mapc at e ⊢
    refine map_via (f := fun e => (e.1, rank u e.2)) (g := fun e => (e.1, rank v e.2)) e.symm fun a ha b hb hab => ?_
    obtain ⟨h1, h2⟩ := Prod.mk.inj hab
    have ga := idx_get (mem_marks ha)
    have gb := idx_get (mem_marks hb)
    have h3 : (marks u).idxOf a.2 = (marks v).idxOf b.2 := h2
    rw [← h3, ← hm, List.getElem?_map, ga] at gb
    have h4 : psum t a.2 = b.2 := Option.some.inj gb
    rw [h1, h4]
  rw [q]
  exact made_ends v k0

/-! ### sums by gaps -/
def bsums : List Nat → List Nat → List Nat
  | [], _ => []
  | a :: A, t => (t.take a).sum :: bsums A (t.drop a)
theorem bsums_len : ∀ (A t : List Nat), (bsums A t).length = A.length
  | [], _ => rfl
  | a :: A, t => by
    show (bsums A (t.drop a)).length + 1 = A.length + 1
    rw [bsums_len A]
theorem marks_bsums (t : List Nat) : ∀ (l : List Nat) (a : Nat), Asc (a :: l) → diffs ((a :: l).map (psum t)) = bsums (diffs (a :: l)) (t.drop a)
  | [], a, _ => rfl
  | b :: r, a, h => by
    obtain ⟨h1, h2⟩ := List.pairwise_cons.mp h
    have hab := h1 b List.mem_cons_self
    have ih := marks_bsums t r b h2
    show (psum t b - psum t a) :: diffs ((b :: r).map (psum t)) = (List.take (b - a) (t.drop a)).sum :: bsums (diffs (b :: r)) ((t.drop a).drop (b - a))
    rw [ih, List.drop_drop, show a + (b - a) = b by omega]
    congr 1
    have e := sum_take_drop t a (b - a)
    rw [show a + (b - a) = b by omega] at e
    rw [e]
    unfold psum
    omega
theorem asc_of_diffs : ∀ {l m : List Nat} {a : Nat}, Asc (a :: l) → Asc (a :: m) → diffs (a :: l) = diffs (a :: m) → l = m
  | [], [], _, _, _, _ => rfl
  | [], _ :: _, _, _, _, e => by simp [diffs] at e
  | _ :: _, [], _, _, _, e => by simp [diffs] at e
  | x :: l, y :: m, a, hl, hm, e => by
    obtain ⟨l1, l2⟩ := List.pairwise_cons.mp hl
    obtain ⟨m1, m2⟩ := List.pairwise_cons.mp hm
    have := l1 x List.mem_cons_self
    have := m1 y List.mem_cons_self
    obtain ⟨e1, e2⟩ := List.cons.inj (show (x - a) :: diffs (x :: l) = (y - a) :: diffs (y :: m) from e)
    have exy : x = y := by omega
    subst exy
    rw [asc_of_diffs l2 m2 e2]
/-- for words with one core: a row of as many numbers from 1 on as the last mark says one to the other just if its sums by the gaps are the other's gaps -/
theorem sd_iff {t u v : List Nat} (hc : core u = core v) (hp : ∀ x ∈ t, 1 ≤ x) (hl : t.length = last u) : sd t k0 u = v ↔ bsums (gaps u) t = gaps v := by
  obtain ⟨r, er⟩ := marks_cons u
  obtain ⟨r', er'⟩ := marks_cons v
  have hu := marks_asc u
  have hv := marks_asc v
  have mb : diffs ((marks u).map (psum t)) = bsums (gaps u) t := by
    unfold gaps
    rw [er] at hu ⊢
    have q := marks_bsums t r 0 hu
    rw [List.drop_zero] at q
    exact q
  refine ⟨fun h => ?_, fun h => sd_of_marks hc ?_⟩
  · rw [← mb, ← (sd_marks hp hl).2, h]
    rfl
  · have hm : Asc ((marks u).map (psum t)) := List.pairwise_map.mpr (hu.imp_of_mem fun {a b} _ hb hab => psum_lt hp (by rw [hl]; exact le_last hb) hab)
    rw [h] at mb
    unfold gaps at mb
    rw [er] at mb hm ⊢
    rw [er'] at mb hv ⊢
    rw [List.map_cons, psum0] at mb hm ⊢
    rw [asc_of_diffs hm hv mb]
end Sc

/-! ScMathB -/
/-! Rows of numbers with sums: all of them in order, how many, their ranks, the least and the greatest. Plain Lean. -/
namespace Sc

theorem fm_congr {α β : Type} {l : List α} {f g : α → List β} (h : ∀ a ∈ l, f a = g a) : l.flatMap f = l.flatMap g := by
  induction l with
  | nil => rfl
  | cons a l ih => rw [List.flatMap_cons, List.flatMap_cons, h a List.mem_cons_self, ih fun b hb => h b (List.mem_cons_of_mem _ hb)]
theorem len_le_sum : ∀ {s : List Nat}, (∀ x ∈ s, 1 ≤ x) → s.length ≤ s.sum
  | [], _ => Nat.le_refl _
  | x :: s, h => by
    have a := h x List.mem_cons_self
    have b := len_le_sum (s := s) fun y hy => h y (List.mem_cons_of_mem _ hy)
    rw [List.length_cons, List.sum_cons]
    omega
def sums : Nat → Nat → List (List Nat)
  | 0, b => if b = 0 then [[]] else []
  | a + 1, b => (List.range (b - a)).flatMap fun i => (sums a (b - (i + 1))).map ((i + 1) :: ·)
theorem mem_sums : ∀ (a b : Nat) (s : List Nat), s ∈ sums a b ↔ s.length = a ∧ (∀ x ∈ s, 1 ≤ x) ∧ s.sum = b
  | 0, b, s => by
    unfold sums
    by_cases hb : b = 0
    · subst hb
      rw [if_pos rfl, List.mem_singleton]
      refine ⟨fun h => by subst h; simp, fun h => List.eq_nil_of_length_eq_zero h.1⟩
    · rw [if_neg hb]
      refine ⟨fun h => by simp at h, fun ⟨h1, _, h3⟩ => ?_⟩
      rw [List.eq_nil_of_length_eq_zero h1] at h3
      exact absurd h3.symm hb
  | a + 1, b, s => by
    unfold sums
    rw [List.mem_flatMap]
    refine ⟨fun ⟨i, hi, h⟩ => ?_, fun ⟨h1, h2, h3⟩ => ?_⟩
    · obtain ⟨r, hr, rfl⟩ := List.mem_map.mp h
      obtain ⟨r1, r2, r3⟩ := (mem_sums a _ r).mp hr
      rw [List.mem_range] at hi
      refine ⟨by rw [List.length_cons, r1], fun x hx => ?_, by rw [List.sum_cons, r3]; omega⟩
      rcases List.mem_cons.mp hx with rfl | hx
      · omega
      · exact r2 x hx
    · cases s with
      | nil => simp at h1
      | cons x r =>
        have hx := h2 x List.mem_cons_self
        have hr : ∀ y ∈ r, 1 ≤ y := fun y hy => h2 y (List.mem_cons_of_mem _ hy)
        have l := len_le_sum hr
        rw [List.length_cons] at h1
        rw [List.sum_cons] at h3
        refine ⟨x - 1, List.mem_range.mpr (by omega), List.mem_map.mpr ⟨r, (mem_sums a _ r).mpr ⟨by omega, hr, by omega⟩, ?_⟩⟩
        show (x - 1 + 1) :: r = x :: r
        rw [show x - 1 + 1 = x by omega]
theorem sums_nil {a b : Nat} (h : b < a) : sums a b = [] := by
  cases e : sums a b with
  | nil => rfl
  | cons s l =>
    obtain ⟨h1, h2, h3⟩ := (mem_sums a b s).mp (by rw [e]; exact List.mem_cons_self)
    have := len_le_sum h2
    omega
theorem sums_one {b : Nat} (h : 1 ≤ b) : sums 1 b = [[b]] := by
  obtain ⟨c, rfl⟩ : ∃ c, b = c + 1 := ⟨b - 1, by omega⟩
  show (List.range (c + 1 - 0)).flatMap (fun i => (if c + 1 - (i + 1) = 0 then [[]] else []).map ((i + 1) :: ·)) = _
  rw [Nat.sub_zero, List.range_succ, List.flatMap_append]
  have e : (List.range c).flatMap (fun i => ((if c + 1 - (i + 1) = 0 then [[]] else [] : List (List Nat))).map ((i + 1) :: ·)) = [] := by
    rw [List.flatMap_eq_nil_iff]
    intro i hi
    rw [List.mem_range] at hi
    rw [if_neg (by omega)]
    rfl
  rw [e]
  simp

/-! ### how many -/
def Ch : Nat → Nat → Nat
  | _, 0 => 1
  | 0, _ + 1 => 0
  | n + 1, k + 1 => Ch n k + Ch n (k + 1)
theorem Ch_zero (n : Nat) : Ch n 0 = 1 := by cases n <;> rfl
theorem Ch_id : ∀ (n k : Nat), Ch n (k + 1) * (k + 1) + Ch n k * k = Ch n k * n
  | 0, 0 => rfl
  | 0, k + 1 => by simp [Ch]
  | n + 1, 0 => by
    have h : Ch n 1 * 1 + Ch n 0 * 0 = Ch n 0 * n := Ch_id n 0
    have e := Ch_zero n
    show (Ch n 0 + Ch n 1) * 1 + 1 * 0 = 1 * (n + 1)
    rw [e] at h ⊢
    omega
  | n + 1, k + 1 => by
    have h1 : Ch n (k + 2) * (k + 2) + Ch n (k + 1) * (k + 1) = Ch n (k + 1) * n := Ch_id n (k + 1)
    have h2 : Ch n (k + 1) * (k + 1) + Ch n k * k = Ch n k * n := Ch_id n k
    show (Ch n (k + 1) + Ch n (k + 2)) * (k + 2) + (Ch n k + Ch n (k + 1)) * (k + 1) = (Ch n k + Ch n (k + 1)) * (n + 1)
    simp only [Nat.mul_add, Nat.add_mul] at h1 h2 ⊢
    omega
theorem Ch_gt : ∀ (n k : Nat), n < k → Ch n k = 0
  | _, 0, h => by omega
  | 0, k + 1, _ => rfl
  | n + 1, k + 1, h => by
    show Ch n k + Ch n (k + 1) = 0
    rw [Ch_gt n k (by omega), Ch_gt n (k + 1) (by omega)]
theorem Ch_pos : ∀ (n k : Nat), k ≤ n → 1 ≤ Ch n k
  | n, 0, _ => by rw [Ch_zero]; exact Nat.le_refl _
  | 0, k + 1, h => by omega
  | n + 1, k + 1, h => by
    have := Ch_pos n k (by omega)
    show 1 ≤ Ch n k + Ch n (k + 1)
    omega
/-- one turn of the loop that reckons it -/
theorem Ch_turn {n k : Nat} (h : k < n) : Ch n k * (n - k) / (k + 1) = Ch n (k + 1) := by
  have e := Ch_id n k
  have e2 : Ch n k * (n - k) = Ch n (k + 1) * (k + 1) := by
    rw [Nat.mul_sub]
    omega
  rw [e2, Nat.mul_div_cancel _ (by omega)]
theorem sums_len_step (a b : Nat) : (sums (a + 1) (b + 1)).length = (sums a b).length + (sums (a + 1) b).length := by
  by_cases h : a ≤ b
  · have e1 : (sums (a + 1) (b + 1)).length = ((List.range (b + 1 - a)).map fun i => (sums a (b - i)).length).sum := by
      show ((List.range (b + 1 - a)).flatMap fun i => (sums a (b + 1 - (i + 1))).map ((i + 1) :: ·)).length = _
      rw [List.length_flatMap]
      congr 1
      apply List.map_congr_left
      intro i _
      rw [List.length_map, show b + 1 - (i + 1) = b - i by omega]
    have e2 : (sums (a + 1) b).length = ((List.range (b - a)).map fun i => (sums a (b - (i + 1))).length).sum := by
      show ((List.range (b - a)).flatMap fun i => (sums a (b - (i + 1))).map ((i + 1) :: ·)).length = _
      rw [List.length_flatMap]
      congr 1
      apply List.map_congr_left
      intro i _
      rw [List.length_map]
    rw [e1, e2, show b + 1 - a = (b - a) + 1 by omega, List.range_succ_eq_map, List.map_cons, List.map_map, List.sum_cons]
    rfl
  · rw [sums_nil (show b + 1 < a + 1 by omega), sums_nil (show b < a by omega), sums_nil (show b < a + 1 by omega)]
    rfl
theorem sums_len : ∀ (b a : Nat), (sums (a + 1) (b + 1)).length = Ch b a
  | 0, a => by
    rw [sums_len_step, sums_nil (show 0 < a + 1 by omega)]
    cases a with
    | zero => rfl
    | succ a =>
      rw [sums_nil (show 0 < a + 1 by omega)]
      rfl
  | b + 1, a => by
    rw [sums_len_step, sums_len b a]
    cases a with
    | zero =>
      rw [Ch_zero, Ch_zero]
      show (if b + 1 = 0 then [[]] else [] : List (List Nat)).length + 1 = 1
      rw [if_neg (by omega)]
      rfl
    | succ a =>
      rw [sums_len b a]
      rfl
def ways (a b : Nat) : Nat := Ch (b - 1) (a - 1)
theorem ways_len {a b : Nat} (ha : 1 ≤ a) (hb : 1 ≤ b) : (sums a b).length = ways a b := by
  obtain ⟨c, rfl⟩ : ∃ c, a = c + 1 := ⟨a - 1, by omega⟩
  obtain ⟨d, rfl⟩ : ∃ d, b = d + 1 := ⟨b - 1, by omega⟩
  rw [sums_len]
  rfl

/-! ### all rows -/
def rowsOf : List (Nat × Nat) → List (List Nat)
  | [] => [[]]
  | p :: r => (sums p.1 p.2).flatMap fun s => (rowsOf r).map (s ++ ·)
def rowsStep (acc : List (List Nat)) (p : Nat × Nat) : List (List Nat) := acc.flatMap fun t => (sums p.1 p.2).map (t ++ ·)
theorem rowsL_eq : ∀ (AB : List (Nat × Nat)) (acc : List (List Nat)), AB.foldl rowsStep acc = acc.flatMap fun t => (rowsOf AB).map (t ++ ·)
  | [], acc => by
    show acc = acc.flatMap fun t => [t ++ []]
    simp only [List.append_nil]
    exact (List.flatMap_singleton' acc).symm
  | p :: r, acc => by
    rw [List.foldl_cons, rowsL_eq r, rowsStep, List.flatMap_assoc]
    apply fm_congr
    intro t _
    show _ = ((sums p.1 p.2).flatMap fun s => (rowsOf r).map (s ++ ·)).map (t ++ ·)
    rw [List.map_flatMap, List.flatMap_map]
    apply fm_congr
    intro s _
    rw [List.map_map]
    apply List.map_congr_left
    intro u _
    exact List.append_assoc t s u
theorem rows_fold (AB : List (Nat × Nat)) : AB.foldl rowsStep [[]] = rowsOf AB := by
  rw [rowsL_eq]
  simp
theorem rows_snoc (AB : List (Nat × Nat)) (p : Nat × Nat) : rowsOf (AB ++ [p]) = rowsStep (rowsOf AB) p := by
  rw [← rows_fold, List.foldl_append, rows_fold]
  rfl
theorem mem_rows : ∀ (A B t : List Nat), A.length = B.length → (t ∈ rowsOf (A.zip B) ↔ t.length = A.sum ∧ (∀ x ∈ t, 1 ≤ x) ∧ bsums A t = B)
  | [], [], t, _ => by
    show t ∈ [[]] ↔ _
    rw [List.mem_singleton]
    refine ⟨fun h => by subst h; simp [bsums], fun h => List.eq_nil_of_length_eq_zero h.1⟩
  | [], _ :: _, _, h => by simp at h
  | _ :: _, [], _, h => by simp at h
  | a :: A, b :: B, t, h => by
    have ih := fun u => mem_rows A B u (by simpa using h)
    show t ∈ ((sums a b).flatMap fun s => (rowsOf (A.zip B)).map (s ++ ·)) ↔ _
    rw [List.mem_flatMap]
    refine ⟨fun ⟨s, hs, ht⟩ => ?_, fun ⟨h1, h2, h3⟩ => ?_⟩
    · obtain ⟨u, hu, rfl⟩ := List.mem_map.mp ht
      obtain ⟨s1, s2, s3⟩ := (mem_sums a b s).mp hs
      obtain ⟨u1, u2, u3⟩ := (ih u).mp hu
      refine ⟨by rw [List.length_append, s1, u1, List.sum_cons], fun x hx => ?_, ?_⟩
      · rcases List.mem_append.mp hx with q | q
        · exact s2 x q
        · exact u2 x q
      · show (List.take a (s ++ u)).sum :: bsums A (List.drop a (s ++ u)) = b :: B
        rw [← s1, List.take_left' rfl, List.drop_left' rfl, s3, u3]
    · obtain ⟨e1, e2⟩ := List.cons.inj (show (t.take a).sum :: bsums A (t.drop a) = b :: B from h3)
      rw [List.sum_cons] at h1
      refine ⟨t.take a, (mem_sums a b _).mpr ⟨by rw [List.length_take]; omega, fun x hx => h2 x (List.mem_of_mem_take hx), e1⟩, ?_⟩
      exact List.mem_map.mpr ⟨t.drop a, (ih _).mpr ⟨by rw [List.length_drop]; omega, fun x hx => h2 x (List.mem_of_mem_drop hx), e2⟩, List.take_append_drop a t⟩
theorem rows_none : ∀ {AB : List (Nat × Nat)}, (∃ p ∈ AB, p.2 < p.1) → rowsOf AB = []
  | [], h => by
    obtain ⟨p, hp, _⟩ := h
    simp at hp
  | q :: r, h => by
    show (sums q.1 q.2).flatMap (fun s => (rowsOf r).map (s ++ ·)) = []
    obtain ⟨p, hp, h⟩ := h
    rcases List.mem_cons.mp hp with rfl | hp
    · rw [sums_nil h]
      rfl
    · rw [rows_none ⟨p, hp, h⟩, List.flatMap_eq_nil_iff]
      intro s _
      rfl
theorem rows_len_cons (p : Nat × Nat) (r : List (Nat × Nat)) : (rowsOf (p :: r)).length = (sums p.1 p.2).length * (rowsOf r).length := by
  show ((sums p.1 p.2).flatMap fun s => (rowsOf r).map (s ++ ·)).length = _
  rw [List.length_flatMap]
  have e : ((sums p.1 p.2).map fun s => ((rowsOf r).map (s ++ ·)).length) = List.replicate (sums p.1 p.2).length (rowsOf r).length := by
    rw [List.eq_replicate_iff]
    refine ⟨List.length_map _, fun x hx => ?_⟩
    obtain ⟨s, _, rfl⟩ := List.mem_map.mp hx
    exact List.length_map _
  rw [e, List.sum_replicate_nat]
def prod (l : List Nat) : Nat := l.foldl (· * ·) 1
theorem fold_mul : ∀ (l : List Nat) (c : Nat), l.foldl (· * ·) c = c * l.foldl (· * ·) 1
  | [], c => by simp
  | x :: l, c => by
    rw [List.foldl_cons, List.foldl_cons, fold_mul l (c * x), fold_mul l (1 * x), Nat.one_mul, Nat.mul_assoc]
theorem rows_len : ∀ {AB : List (Nat × Nat)}, (∀ p ∈ AB, 1 ≤ p.1 ∧ 1 ≤ p.2) → (rowsOf AB).length = prod (AB.map fun p => ways p.1 p.2)
  | [], _ => rfl
  | p :: r, h => by
    rw [rows_len_cons, rows_len fun q hq => h q (List.mem_cons_of_mem _ hq), ways_len (h p List.mem_cons_self).1 (h p List.mem_cons_self).2]
    unfold prod
    rw [List.map_cons, List.foldl_cons, fold_mul _ (1 * ways p.1 p.2), Nat.one_mul]

/-! ### their order -/
def Lx : List Nat → List Nat → Prop
  | x :: xs, y :: ys => x < y ∨ (x = y ∧ Lx xs ys)
  | _, _ => False
theorem lx_irrefl : ∀ s : List Nat, ¬ Lx s s
  | [], h => h
  | x :: s, h => by
    rcases h with h | ⟨_, h⟩
    · omega
    · exact lx_irrefl s h
theorem lx_same : ∀ (s : List Nat) {u v : List Nat}, Lx u v → Lx (s ++ u) (s ++ v)
  | [], _, _, h => h
  | _ :: s, _, _, h => .inr ⟨rfl, lx_same s h⟩
theorem lx_ahead : ∀ {s s' : List Nat} (u v : List Nat), Lx s s' → Lx (s ++ u) (s' ++ v)
  | [], _, _, _, h => by simp [Lx] at h
  | _ :: _, [], _, _, h => by simp [Lx] at h
  | x :: s, y :: s', u, v, h => by
    rcases h with h | ⟨e, h⟩
    · exact .inl h
    · exact .inr ⟨e, lx_ahead u v h⟩
theorem sums_lx : ∀ (a b : Nat), (sums a b).Pairwise Lx
  | 0, b => by
    unfold sums
    by_cases h : b = 0
    · rw [if_pos h]; exact List.pairwise_singleton _ _
    · rw [if_neg h]; exact List.Pairwise.nil
  | a + 1, b => by
    unfold sums
    rw [List.pairwise_flatMap]
    refine ⟨fun i _ => List.pairwise_map.mpr ((sums_lx a _).imp fun h => .inr ⟨rfl, h⟩), List.pairwise_lt_range.imp fun {i j} hij x hx y hy => ?_⟩
    obtain ⟨r, _, rfl⟩ := List.mem_map.mp hx
    obtain ⟨q, _, rfl⟩ := List.mem_map.mp hy
    exact .inl (by omega)
theorem rows_lx : ∀ AB : List (Nat × Nat), (rowsOf AB).Pairwise Lx
  | [] => List.pairwise_singleton _ _
  | p :: r => by
    show ((sums p.1 p.2).flatMap fun s => (rowsOf r).map (s ++ ·)).Pairwise Lx
    rw [List.pairwise_flatMap]
    refine ⟨fun s _ => List.pairwise_map.mpr ((rows_lx r).imp fun h => lx_same s h), (sums_lx _ _).imp fun {s s'} hs x hx y hy => ?_⟩
    obtain ⟨u, _, rfl⟩ := List.mem_map.mp hx
    obtain ⟨v, _, rfl⟩ := List.mem_map.mp hy
    exact lx_ahead u v hs
theorem rows_nodup (AB : List (Nat × Nat)) : (rowsOf AB).Nodup := (rows_lx AB).imp fun {a b} h e => by
  subst e
  exact lx_irrefl _ h

/-! ### by place -/
theorem flat_get {α β : Type} {f : α → List β} : ∀ {l : List α} {i j : Nat} {z : α} {v : β}, l[i]? = some z → (f z)[j]? = some v → (l.flatMap f)[((l.take i).map fun x => (f x).length).sum + j]? = some v
  | [], _, _, _, _, h, _ => by simp at h
  | x :: l, 0, j, z, v, h, hv => by
    have e : x = z := Option.some.inj h
    subst e
    obtain ⟨hj, _⟩ := List.getElem?_eq_some_iff.mp hv
    rw [List.flatMap_cons, List.take_zero, List.map_nil, List.sum_nil, Nat.zero_add, List.getElem?_append_left hj]
    exact hv
  | x :: l, i + 1, j, z, v, h, hv => by
    have ih := flat_get (f := f) (l := l) (i := i) (j := j) (by simpa using h) hv
    rw [List.flatMap_cons, List.take_succ_cons, List.map_cons, List.sum_cons, List.getElem?_append_right (by omega), ← ih]
    congr 1
    omega
theorem flat_const {α β : Type} {f : α → List β} {N : Nat} : ∀ {l : List α} (i : Nat), (∀ x ∈ l, (f x).length = N) → i ≤ l.length → ((l.take i).map fun x => (f x).length).sum = i * N := fun {l} i h hi => by
  have e : ((l.take i).map fun x => (f x).length) = List.replicate i N := by
    rw [List.eq_replicate_iff]
    refine ⟨by rw [List.length_map, List.length_take]; omega, fun x hx => ?_⟩
    obtain ⟨y, hy, rfl⟩ := List.mem_map.mp hx
    exact h y (List.mem_of_mem_take hy)
  rw [e, List.sum_replicate_nat]
theorem rows_get {p : Nat × Nat} {r : List (Nat × Nat)} {i j : Nat} {s u : List Nat} (hs : (sums p.1 p.2)[i]? = some s) (hu : (rowsOf r)[j]? = some u) : (rowsOf (p :: r))[i * (rowsOf r).length + j]? = some (s ++ u) := by
  have q := flat_get (f := fun s => (rowsOf r).map (s ++ ·)) (j := j) (v := s ++ u) hs (by rw [List.getElem?_map, hu] <;> rfl)
  rw [flat_const (N := (rowsOf r).length) i (fun x _ => List.length_map _) (Nat.le_of_lt (List.getElem?_eq_some_iff.mp hs).1)] at q
  exact q

/-! ### the rank of a row -/
def rr : List Nat → Nat
  | x :: y :: r => ((List.range (x - 1)).map fun i => Ch ((x :: y :: r).sum - (i + 1) - 1) r.length).sum + rr (y :: r)
  | _ => 0
theorem rr_get : ∀ (s : List Nat), s ≠ [] → (∀ x ∈ s, 1 ≤ x) → (sums s.length s.sum)[rr s]? = some s
  | [], h, _ => absurd rfl h
  | [x], _, h => by
    have hx := h x List.mem_cons_self
    show (sums 1 (x + 0))[0]? = some [x]
    rw [Nat.add_zero, sums_one hx]
    rfl
  | x :: y :: r, _, h => by
    have hx := h x List.mem_cons_self
    have hr : ∀ z ∈ y :: r, 1 ≤ z := fun z hz => h z (List.mem_cons_of_mem _ hz)
    have ih := rr_get (y :: r) (List.cons_ne_nil _ _) hr
    have hl := len_le_sum hr
    have es : (x :: y :: r).sum = x + (y :: r).sum := List.sum_cons
    show ((List.range ((x :: y :: r).sum - (y :: r).length)).flatMap fun i => (sums (y :: r).length ((x :: y :: r).sum - (i + 1))).map ((i + 1) :: ·))[rr (x :: y :: r)]? = _
    have g1 : (List.range ((x :: y :: r).sum - (y :: r).length))[x - 1]? = some (x - 1) := List.getElem?_range (by rw [es]; omega)
    have g2 : ((sums (y :: r).length ((x :: y :: r).sum - (x - 1 + 1))).map ((x - 1 + 1) :: ·))[rr (y :: r)]? = some (x :: y :: r) := by
      rw [show x - 1 + 1 = x by omega, show (x :: y :: r).sum - x = (y :: r).sum by omega, List.getElem?_map, ih]
      rfl
    have q := flat_get (f := fun i => (sums (y :: r).length ((x :: y :: r).sum - (i + 1))).map ((i + 1) :: ·)) g1 g2
    rw [← q]
    congr 1
    show _ + rr (y :: r) = _
    congr 1
    rw [List.take_range, show min (x - 1) ((x :: y :: r).sum - (y :: r).length) = x - 1 by rw [es]; omega]
    congr 1
    apply List.map_congr_left
    intro i hi
    rw [List.mem_range] at hi
    rw [List.length_map, ways_len (by simp) (by rw [es]; omega)]
    rfl
def rk : Nat → List (Nat × Nat) → List Nat → Nat
  | acc, [], _ => acc
  | acc, p :: r, t => rk (acc * ways p.1 p.2 + rr (t.take p.1)) r (t.drop p.1)
theorem rk_get : ∀ (AB : List (Nat × Nat)) (acc : Nat) (t : List Nat), (∀ p ∈ AB, 1 ≤ p.1) → t ∈ rowsOf AB → ∃ i, rk acc AB t = acc * (rowsOf AB).length + i ∧ (rowsOf AB)[i]? = some t
  | [], acc, t, _, h => by
    rw [show rowsOf [] = [[]] from rfl, List.mem_singleton] at h
    subst h
    refine ⟨0, ?_, rfl⟩
    show acc = acc * 1 + 0
    omega
  | p :: r, acc, t, hp, h => by
    obtain ⟨s, hs, ht⟩ := List.mem_flatMap.mp (show t ∈ (sums p.1 p.2).flatMap fun s => (rowsOf r).map (s ++ ·) from h)
    obtain ⟨u, hu, rfl⟩ := List.mem_map.mp ht
    obtain ⟨s1, s2, s3⟩ := (mem_sums _ _ s).mp hs
    have h1 := hp p List.mem_cons_self
    have hne : s ≠ [] := fun e => by
      rw [e] at s1
      simp at s1
      omega
    have hb : 1 ≤ p.2 := by
      have := len_le_sum s2
      omega
    have g := rr_get s hne s2
    rw [s1, s3] at g
    obtain ⟨i, e1, e2⟩ := rk_get r (acc * ways p.1 p.2 + rr s) u (fun q hq => hp q (List.mem_cons_of_mem _ hq)) hu
    refine ⟨rr s * (rowsOf r).length + i, ?_, rows_get g e2⟩
    show rk (acc * ways p.1 p.2 + rr (List.take p.1 (s ++ u))) r (List.drop p.1 (s ++ u)) = _
    rw [← s1, List.take_left' rfl, List.drop_left' rfl, s1, e1, rows_len_cons, ways_len h1 hb, Nat.add_mul, Nat.mul_assoc]
    omega

/-! ### the row of a rank -/
def dec : List (Nat × Nat) → Nat → Nat × List (List Nat)
  | [], k => (k, [])
  | p :: r, k => ((dec r k).1 / ways p.1 p.2, (sums p.1 p.2).getD ((dec r k).1 % ways p.1 p.2) [] :: (dec r k).2)
theorem ways_pos {a b : Nat} (ha : 1 ≤ a) (h : a ≤ b) : 1 ≤ ways a b := Ch_pos _ _ (by omega)
theorem sums_at {a b k : Nat} (ha : 1 ≤ a) (h : a ≤ b) : (sums a b)[k % ways a b]? = some ((sums a b).getD (k % ways a b) []) := by
  have hw := ways_pos ha h
  have hk : k % ways a b < (sums a b).length := by
    rw [ways_len ha (by omega)]
    exact Nat.mod_lt _ hw
  rw [List.getD_eq_getElem?_getD, List.getElem?_eq_getElem hk]
  rfl
theorem rows_ne : ∀ {AB : List (Nat × Nat)}, (∀ p ∈ AB, 1 ≤ p.1 ∧ p.1 ≤ p.2) → 1 ≤ (rowsOf AB).length
  | [], _ => Nat.le_refl _
  | p :: r, h => by
    obtain ⟨h1, h2⟩ := h p List.mem_cons_self
    rw [rows_len_cons, ways_len h1 (by omega)]
    exact Nat.mul_pos (ways_pos h1 h2) (rows_ne fun q hq => h q (List.mem_cons_of_mem _ hq))
theorem dec_get : ∀ (AB : List (Nat × Nat)) (k : Nat), (∀ p ∈ AB, 1 ≤ p.1 ∧ p.1 ≤ p.2) → (dec AB k).1 = k / (rowsOf AB).length ∧ (rowsOf AB)[k % (rowsOf AB).length]? = some (dec AB k).2.flatten
  | [], k, _ => by
    refine ⟨(Nat.div_one k).symm, ?_⟩
    show ([[]] : List (List Nat))[k % 1]? = some []
    rw [Nat.mod_one]
    rfl
  | p :: r, k, h => by
    obtain ⟨h1, h2⟩ := h p List.mem_cons_self
    obtain ⟨e1, e2⟩ := dec_get r k fun q hq => h q (List.mem_cons_of_mem _ hq)
    have hl : (rowsOf (p :: r)).length = (rowsOf r).length * ways p.1 p.2 := by rw [rows_len_cons, ways_len h1 (by omega), Nat.mul_comm]
    rw [hl]
    refine ⟨?_, ?_⟩
    · show (dec r k).1 / ways p.1 p.2 = _
      rw [e1, Nat.div_div_eq_div_mul]
    · have q := rows_get (sums_at (k := (dec r k).1) h1 h2) e2
      rw [Nat.mod_mul, ← e1, Nat.mul_comm (rowsOf r).length, Nat.add_comm]
      exact q
theorem dec_len : ∀ (AB : List (Nat × Nat)) (k : Nat), (dec AB k).2.length = AB.length
  | [], _ => rfl
  | _ :: r, k => congrArg (· + 1) (dec_len r k)
/-- the tail of all rows of so many + 1 numbers that begin with first or more -/
def fromF (f a b : Nat) : List (List Nat) := (List.range (b - a - (f - 1))).flatMap fun i => (sums a (b - (f + i))).map ((f + i) :: ·)
theorem fromF_one (a b : Nat) : fromF 1 a b = sums (a + 1) b := by
  show (List.range (b - a - 0)).flatMap _ = (List.range (b - a)).flatMap _
  rw [Nat.sub_zero]
  apply fm_congr
  intro i _
  rw [Nat.add_comm 1 i]
theorem fromF_step {f a b : Nat} (hf : 1 ≤ f) (h : f ≤ b - a) : fromF f a b = (sums a (b - f)).map (f :: ·) ++ fromF (f + 1) a b := by
  unfold fromF
  rw [show b - a - (f - 1) = (b - a - (f + 1 - 1)) + 1 by omega, List.range_succ_eq_map, List.flatMap_cons, List.flatMap_map, Nat.add_zero]
  congr 1
  apply fm_congr
  intro i _
  rw [show f + 1 + i = f + Nat.succ i by omega]
theorem fromF_nil {f a b : Nat} (h : b - a < f) : fromF f a b = [] := by
  unfold fromF
  rw [show b - a - (f - 1) = 0 by omega]
  rfl

/-! ### the least, the greatest -/
theorem sums_head : ∀ (a b : Nat), a + 1 ≤ b → (sums (a + 1) b).head? = some (List.replicate a 1 ++ [b - a])
  | 0, b, h => by
    rw [sums_one h]
    rfl
  | a + 1, b, h => by
    show ((List.range (b - (a + 1))).flatMap fun i => (sums (a + 1) (b - (i + 1))).map ((i + 1) :: ·)).head? = _
    rw [show b - (a + 1) = (b - (a + 2)) + 1 by omega, List.range_succ_eq_map, List.flatMap_cons, List.head?_append, List.head?_map, sums_head a (b - (0 + 1)) (by omega)]
    show some (1 :: (List.replicate a 1 ++ [b - (0 + 1) - a])) = some (List.replicate (a + 1) 1 ++ [b - (a + 2) + 1])
    rw [List.replicate_succ, List.cons_append, show b - (0 + 1) - a = b - (a + 2) + 1 by omega]
theorem sums_self : ∀ a : Nat, sums a a = [List.replicate a 1]
  | 0 => rfl
  | a + 1 => by
    show ((List.range (a + 1 - a)).flatMap fun i => (sums a (a + 1 - (i + 1))).map ((i + 1) :: ·)) = _
    rw [show a + 1 - a = 1 by omega]
    show (sums a (a + 1 - 1)).map (1 :: ·) ++ [] = _
    rw [show a + 1 - 1 = a by omega, sums_self a, List.append_nil]
    rfl
theorem sums_last (a b : Nat) (h : a + 1 ≤ b) : (sums (a + 1) b).getLast? = some ((b - a) :: List.replicate a 1) := by
  show ((List.range (b - a)).flatMap fun i => (sums a (b - (i + 1))).map ((i + 1) :: ·)).getLast? = _
  rw [show b - a = (b - a - 1) + 1 by omega, List.range_succ, List.flatMap_append]
  show (_ ++ ((sums a (b - (b - a - 1 + 1))).map ((b - a - 1 + 1) :: ·) ++ [])).getLast? = _
  rw [show b - (b - a - 1 + 1) = a by omega, sums_self, List.append_nil, List.map_singleton, List.getLast?_concat]
def leastOf (AB : List (Nat × Nat)) : List Nat := AB.flatMap fun p => List.replicate (p.1 - 1) 1 ++ [p.2 - p.1 + 1]
def greatestOf (AB : List (Nat × Nat)) : List Nat := AB.flatMap fun p => (p.2 - p.1 + 1) :: List.replicate (p.1 - 1) 1
theorem rows_head : ∀ {AB : List (Nat × Nat)}, (∀ p ∈ AB, 1 ≤ p.1 ∧ p.1 ≤ p.2) → (rowsOf AB).head? = some (leastOf AB)
  | [], _ => rfl
  | p :: r, h => by
    obtain ⟨h1, h2⟩ := h p List.mem_cons_self
    have ih := rows_head fun q hq => h q (List.mem_cons_of_mem _ hq)
    have hs := sums_head (p.1 - 1) p.2 (by omega)
    rw [show p.1 - 1 + 1 = p.1 by omega] at hs
    obtain ⟨l, el⟩ : ∃ l, sums p.1 p.2 = (List.replicate (p.1 - 1) 1 ++ [p.2 - (p.1 - 1)]) :: l := List.head?_eq_some_iff.mp hs
    show ((sums p.1 p.2).flatMap fun s => (rowsOf r).map (s ++ ·)).head? = some (leastOf (p :: r))
    rw [el, List.flatMap_cons, List.head?_append, List.head?_map, ih]
    show some ((List.replicate (p.1 - 1) 1 ++ [p.2 - (p.1 - 1)]) ++ leastOf r) = some (List.replicate (p.1 - 1) 1 ++ [p.2 - p.1 + 1] ++ leastOf r)
    rw [show p.2 - (p.1 - 1) = p.2 - p.1 + 1 by omega]
theorem rows_last : ∀ {AB : List (Nat × Nat)}, (∀ p ∈ AB, 1 ≤ p.1 ∧ p.1 ≤ p.2) → (rowsOf AB).getLast? = some (greatestOf AB)
  | [], _ => rfl
  | p :: r, h => by
    obtain ⟨h1, h2⟩ := h p List.mem_cons_self
    have ih := rows_last fun q hq => h q (List.mem_cons_of_mem _ hq)
    have hs := sums_last (p.1 - 1) p.2 (by omega)
    rw [show p.1 - 1 + 1 = p.1 by omega] at hs
    obtain ⟨l, el⟩ : ∃ l, sums p.1 p.2 = l ++ [(p.2 - (p.1 - 1)) :: List.replicate (p.1 - 1) 1] := List.getLast?_eq_some_iff.mp hs
    show ((sums p.1 p.2).flatMap fun s => (rowsOf r).map (s ++ ·)).getLast? = some (greatestOf (p :: r))
    rw [el, List.flatMap_append]
    show (_ ++ ((rowsOf r).map (((p.2 - (p.1 - 1)) :: List.replicate (p.1 - 1) 1) ++ ·) ++ [])).getLast? = _
    rw [List.append_nil, List.getLast?_append, List.getLast?_map, ih]
    show some (((p.2 - (p.1 - 1)) :: List.replicate (p.1 - 1) 1) ++ greatestOf r) = some (((p.2 - p.1 + 1) :: List.replicate (p.1 - 1) 1) ++ greatestOf r)
    rw [show p.2 - (p.1 - 1) = p.2 - p.1 + 1 by omega]

/-! ### sizes -/
theorem sums_small {a b : Nat} (ha : a ≤ 3) (hb : b ≤ 40) : (sums a b).length ^ 7 ≤ 15 ^ b ∧ (sums a b).length ≤ 1000 := by
  have all : ∀ a, a < 4 → ∀ b, b < 41 → Ch (b - 1) (a - 1) ^ 7 ≤ 15 ^ b ∧ Ch (b - 1) (a - 1) ≤ 1000 := by decide +kernel
  rcases Nat.lt_or_ge b 1 with h0 | h0
  · have e : b = 0 := by omega
    subst e
    rcases Nat.lt_or_ge 0 a with q | q
    · rw [sums_nil q]
      exact ⟨by decide, by decide⟩
    · have e : a = 0 := by omega
      subst e
      exact ⟨by decide, by decide⟩
  · rcases Nat.lt_or_ge 0 a with q | q
    · rw [ways_len q h0]
      exact all a (by omega) b (by omega)
    · have e : a = 0 := by omega
      subst e
      show (if b = 0 then [[]] else [] : List (List Nat)).length ^ 7 ≤ 15 ^ b ∧ (if b = 0 then [[]] else [] : List (List Nat)).length ≤ 1000
      rw [if_neg (by omega)]
      exact ⟨Nat.zero_le _, Nat.zero_le _⟩
theorem rows_pow : ∀ {AB : List (Nat × Nat)}, (∀ p ∈ AB, p.1 ≤ 3 ∧ p.2 ≤ 40) → (rowsOf AB).length ^ 7 ≤ 15 ^ (AB.map (·.2)).sum
  | [], _ => Nat.le_refl _
  | p :: r, h => by
    obtain ⟨h1, h2⟩ := h p List.mem_cons_self
    have a := (sums_small h1 h2).1
    have b := rows_pow fun q hq => h q (List.mem_cons_of_mem _ hq)
    rw [rows_len_cons, Nat.mul_pow, List.map_cons, List.sum_cons, Nat.pow_add]
    exact Nat.mul_le_mul a b
theorem rows_few {AB : List (Nat × Nat)} (h : ∀ p ∈ AB, p.1 ≤ 3 ∧ p.2 ≤ 40) (hs : (AB.map (·.2)).sum ≤ 40) : (rowsOf AB).length ≤ 16000000 := by
  rcases Nat.lt_or_ge 16000000 (rowsOf AB).length with q | q
  · exfalso
    have a := rows_pow h
    have b : 15 ^ (AB.map (·.2)).sum ≤ 15 ^ 40 := Nat.pow_le_pow_right (by decide) hs
    have c : 16000000 ^ 7 ≤ (rowsOf AB).length ^ 7 := Nat.pow_le_pow_left (Nat.le_of_lt q) 7
    have d : ¬ (16000000 ^ 7 : Nat) ≤ 15 ^ 40 := by decide +kernel
    exact d (Nat.le_trans c (Nat.le_trans a b))
  · exact q
end Sc

/-! ScMathC -/
/-! The runs of a word letter by letter. -/
namespace Sc
/-- one more letter -/
def snocR : List (Nat × Nat) → Nat → Nat → List (Nat × Nat)
  | [], c, n => [(c, n)]
  | [e], c, n => if e.1 = c then [(c, n)] else [e, (c, n)]
  | e :: f :: r, c, n => e :: snocR (f :: r) c n
theorem snocR_last : ∀ (E : List (Nat × Nat)) (e : Nat × Nat) (c n : Nat), snocR (E ++ [e]) c n = if e.1 = c then E ++ [(c, n)] else E ++ [e] ++ [(c, n)]
  | [], e, c, n => rfl
  | [a], e, c, n => by
    show a :: snocR [e] c n = _
    show a :: (if e.1 = c then [(c, n)] else [e, (c, n)]) = _
    by_cases h : e.1 = c
    · rw [if_pos h, if_pos h]
      rfl
    · rw [if_neg h, if_neg h]
      rfl
  | a :: b :: E, e, c, n => by
    have ih := snocR_last (b :: E) e c n
    show a :: snocR (b :: E ++ [e]) c n = _
    rw [ih]
    by_cases h : e.1 = c
    · rw [if_pos h, if_pos h]
      rfl
    · rw [if_neg h, if_neg h]
      rfl
theorem snocR_cons {a : Nat × Nat} {E : List (Nat × Nat)} (h : E ≠ []) (c n : Nat) : snocR (a :: E) c n = a :: snocR E c n := by
  cases E with
  | nil => exact absurd rfl h
  | cons b E => rfl
theorem ends_ne {w : List Nat} (h : w ≠ []) (k : Nat → Nat) : ends k w ≠ [] := by
  cases w with
  | nil => exact absurd rfl h
  | cons x r =>
    obtain ⟨c, L, e, _⟩ := ends_head r k x
    rw [e]
    exact List.cons_ne_nil _ _
theorem ends_snoc : ∀ (u : List Nat) (k : Nat → Nat) (c : Nat), ends k (u ++ [c]) = snocR (ends k u) c (k c + (u.count c + 1))
  | [], k, c => by simp [ends, snocR]
  | [x], k, c => by
    have e1 : ends k [x] = [(x, k x + 1)] := by simp [ends]
    rw [e1]
    show ends k (x :: [c]) = if x = c then [(c, k c + ([x].count c + 1))] else [(x, k x + 1), (c, k c + ([x].count c + 1))]
    by_cases h : x = c
    · subst h
      rw [if_pos rfl]
      simp [ends, put_same]
    · rw [if_neg h]
      have h2 : ¬ c = x := fun e => h e.symm
      have h3 : [x].count c = 0 := by
        rw [List.count_eq_zero]
        simpa using h2
      rw [h3]
      simp [ends, h2, put_ne h2]
  | x :: y :: s, k, c => by
    have ih := ends_snoc (y :: s) (put k x (k x + 1)) c
    have hk : put k x (k x + 1) c + ((y :: s).count c + 1) = k c + ((x :: y :: s).count c + 1) := by
      by_cases h : c = x
      · subst h
        rw [put_same, List.count_cons_self]
        omega
      · rw [put_ne h, List.count_cons_of_ne (fun e => h e.symm)]
    rw [hk] at ih
    have hd : ((y :: s) ++ [c]).head? = (y :: s).head? := rfl
    show ends k (x :: ((y :: s) ++ [c])) = _
    unfold ends
    rw [hd]
    by_cases hr : (y :: s).head? = some x
    · rw [if_pos hr, if_pos hr]
      exact ih
    · rw [if_neg hr, if_neg hr, snocR_cons (ends_ne (List.cons_ne_nil _ _) _), ← ih]
/-- counts of a word -/
def cn (u : List Nat) : Nat → Nat := fun x => u.count x
theorem cn_nil : cn [] = k0 := rfl
theorem cn_snoc (u : List Nat) (c : Nat) : cn (u ++ [c]) = put (cn u) c (cn u c + 1) := by
  funext y
  unfold cn put
  rw [List.count_append]
  by_cases h : y = c
  · subst h
    rw [if_pos rfl]
    simp
  · rw [if_neg h]
    have : [c].count y = 0 := by
      rw [List.count_eq_zero]
      simpa using h
    show u.count y + [c].count y = u.count y
    omega
theorem ends_len : ∀ (w : List Nat) (k : Nat → Nat), (ends k w).length ≤ w.length
  | [], _ => Nat.le_refl _
  | x :: r, k => by
    have := ends_len r (put k x (k x + 1))
    unfold ends
    split
    · simp only [List.length_cons]; omega
    · simp only [List.length_cons]; omega
theorem ends_le : ∀ (w : List Nat) (k : Nat → Nat) (B : Nat), (∀ x, k x ≤ B) → ∀ e ∈ ends k w, e.2 ≤ B + w.length
  | [], _, _, _ => by simp [ends]
  | x :: r, k, B, h => fun e he => by
    have hx := h x
    have ih := ends_le r (put k x (k x + 1)) (B + 1) fun y => by
      by_cases q : y = x
      · rw [q, put_same]; omega
      · rw [put_ne q]; have := h y; omega
    unfold ends at he
    simp only [List.length_cons]
    split at he
    · have := ih e he; omega
    · rcases List.mem_cons.mp he with q | q
      · rw [q]; show k x + 1 ≤ _; omega
      · have := ih e q; omega
theorem ends_le0 {w : List Nat} {e : Nat × Nat} (h : e ∈ ends k0 w) : e.2 ≤ w.length := by
  have := ends_le w k0 0 (fun _ => Nat.le_refl 0) e h
  omega
/-- step of the law's walk -/
theorem ends_drop {l : List Nat} {i x : Nat} (h : l[i]? = some x) (k : Nat → Nat) :
    ends k (l.drop i) = if l[i + 1]? = some x then ends (put k x (k x + 1)) (l.drop (i + 1)) else (x, k x + 1) :: ends (put k x (k x + 1)) (l.drop (i + 1)) := by
  obtain ⟨hi, hx⟩ := List.getElem?_eq_some_iff.mp h
  rw [List.drop_eq_getElem_cons hi, hx]
  conv => lhs; unfold ends
  rw [List.head?_drop]
theorem take_snoc {α : Type} {l : List α} {i : Nat} {x : α} (h : l[i]? = some x) : l.take (i + 1) = l.take i ++ [x] := by
  rw [List.take_add_one, h]
  rfl
/-- made, run by run -/
def kof : (Nat → Nat) → List (Nat × Nat) → Nat → Nat
  | k, [] => k
  | k, e :: r => kof (put k e.1 e.2) r
theorem kof_snoc : ∀ (L : List (Nat × Nat)) (k : Nat → Nat) (e : Nat × Nat), kof k (L ++ [e]) = put (kof k L) e.1 e.2
  | [], _, _ => rfl
  | a :: L, k, e => kof_snoc L (put k a.1 a.2) e
theorem made_snoc : ∀ (L : List (Nat × Nat)) (k : Nat → Nat) (e : Nat × Nat), made k (L ++ [e]) = made k L ++ List.replicate (e.2 - kof k L e.1) e.1
  | [], k, e => by
    show List.replicate (e.2 - k e.1) e.1 ++ [] = [] ++ List.replicate (e.2 - k e.1) e.1
    simp
  | a :: L, k, e => by
    show List.replicate (a.2 - k a.1) a.1 ++ made (put k a.1 a.2) (L ++ [e]) = _
    rw [made_snoc L]
    show _ = (List.replicate (a.2 - k a.1) a.1 ++ made (put k a.1 a.2) L) ++ List.replicate (e.2 - kof (put k a.1 a.2) L e.1) e.1
    rw [List.append_assoc]
/-- the counts only grow: what each run adds is its count less the count before -/
theorem val_kof : ∀ (L : List (Nat × Nat)) (k : Nat → Nat) (p : Option Nat) (M : List (Nat × Nat)) (e : Nat × Nat), Val k p (L ++ e :: M) → kof k L e.1 < e.2
  | [], k, p, M, e, h => h.2.1
  | a :: L, k, p, M, e, h => val_kof L (put k a.1 a.2) (some a.1) M e h.2.2
theorem made_take_le (L : List (Nat × Nat)) (k : Nat → Nat) (i : Nat) : (made k (L.take i)).length ≤ (made k L).length := by
  have go : ∀ (A B : List (Nat × Nat)) (k : Nat → Nat), (made k A).length ≤ (made k (A ++ B)).length := by
    intro A
    induction A with
    | nil => intro B k; exact Nat.zero_le _
    | cons a A ih =>
      intro B k
      have := ih B (put k a.1 a.2)
      show (List.replicate (a.2 - k a.1) a.1 ++ made (put k a.1 a.2) A).length ≤ (List.replicate (a.2 - k a.1) a.1 ++ made (put k a.1 a.2) (A ++ B)).length
      rw [List.length_append, List.length_append]
      omega
  have := go (L.take i) (L.drop i) k
  rwa [List.take_append_drop] at this
/-- said by a row, letter by letter -/
theorem sd_snoc (t : List Nat) : ∀ (u : List Nat) (k : Nat → Nat) (c : Nat), sd t k (u ++ [c]) = sd t k u ++ List.replicate (t.getD (k c + u.count c) 0) c
  | [], k, c => by simp [sd]
  | x :: r, k, c => by
    have ih := sd_snoc t r (put k x (k x + 1)) c
    have hk : put k x (k x + 1) c + r.count c = k c + (x :: r).count c := by
      by_cases h : c = x
      · subst h
        rw [put_same, List.count_cons_self]
        omega
      · rw [put_ne h, List.count_cons_of_ne (fun e => h e.symm)]
    rw [hk] at ih
    show sd t k (x :: (r ++ [c])) = sd t k (x :: r) ++ _
    unfold sd
    rw [ih, List.append_assoc]
/-- how many marks are below -/
def below (m : List Nat) (c : Nat) : Nat := ((List.range c).filter fun x => decide (x ∈ m)).length
theorem below_succ (m : List Nat) (c : Nat) : below m c ≤ below m (c + 1) ∧ below m (c + 1) ≤ below m c + 1 := by
  unfold below
  rw [List.range_succ, List.filter_append, List.length_append]
  have : ([c].filter fun x => decide (x ∈ m)).length ≤ 1 := List.length_filter_le _ [c]
  omega
theorem below_mono (m : List Nat) (a b : Nat) (h : a ≤ b) : below m a ≤ below m b ∧ below m b - below m a ≤ 1 * (b - a) := by
  obtain ⟨d, rfl⟩ : ∃ d, b = a + d := ⟨b - a, by omega⟩
  clear h
  induction d with
  | zero => simp
  | succ d ih =>
    have := below_succ m (a + d)
    rw [show a + (d + 1) = (a + d) + 1 by omega]
    omega
theorem below_idx {m : List Nat} (h : Asc m) {c : Nat} (hc : c ∈ m) : below m c = m.idxOf c := by
  have e : (List.range c).filter (fun x => decide (x ∈ m)) = m.take (m.idxOf c) := by
    refine asc_ext (List.Pairwise.filter _ List.pairwise_lt_range) (List.Pairwise.sublist (List.take_sublist _ _) h) fun x => ?_
    rw [List.mem_filter, List.mem_range, decide_eq_true_iff]
    constructor
    · rintro ⟨h1, h2⟩
      refine List.mem_take_iff_getElem.mpr ?_
      have hl := idx_mono h h2 hc h1
      have hx := List.idxOf_lt_length_iff.mpr h2
      refine ⟨m.idxOf x, by omega, ?_⟩
      exact List.getElem_idxOf hx
    · intro hx
      obtain ⟨i, hi, rfl⟩ := List.mem_take_iff_getElem.mp hx
      have hl : i < m.length := by omega
      refine ⟨?_, List.getElem_mem hl⟩
      exact asc_lt h (List.getElem?_eq_getElem hl) (idx_get hc) (by omega)
  unfold below
  rw [e, List.length_take]
  have := List.idxOf_lt_length_iff.mpr hc
  omega
theorem core_len (w : List Nat) : (core w).length ≤ w.length := by
  have e : mapc (rank w) (ends k0 w) = mapc (below (marks w)) (ends k0 w) := by
    refine List.map_congr_left fun r hr => ?_
    show (r.1, rank w r.2) = (r.1, below (marks w) r.2)
    rw [below_idx (marks_asc w) (mem_marks hr)]
    rfl
  have h := made_len_le (P := below (marks w)) (B := 1) (fun a b h => (below_mono _ a b h).2) (fun a b h => (below_mono _ a b h).1) (ends k0 w) k0
  rw [made_ends, Nat.one_mul] at h
  unfold core
  rw [e]
  exact h
theorem kof_le {B : Nat} : ∀ (L : List (Nat × Nat)) (k : Nat → Nat), (∀ x, k x ≤ B) → (∀ e ∈ L, e.2 ≤ B) → ∀ x, kof k L x ≤ B
  | [], k, h, _ => h
  | a :: L, k, h, hL => kof_le L (put k a.1 a.2) (fun y => by
      by_cases q : y = a.1
      · rw [q, put_same]; exact hL a List.mem_cons_self
      · rw [put_ne q]; exact h y) fun e he => hL e (List.mem_cons_of_mem _ he)
theorem wd_core {w : List Nat} (h : ∀ x ∈ w, 97 ≤ x ∧ x ≤ 100) : ∀ x ∈ core w, 97 ≤ x ∧ x ≤ 100 := fun x hx => h x (core_mem hx)
end Sc

/-! ScMathD -/
/-! Counts and marks; rows of two words; the rank of a row, block by block. -/
namespace Sc
theorem snocR_new : ∀ (E : List (Nat × Nat)) (c n : Nat), (c, n) ∈ snocR E c n
  | [], c, n => List.mem_cons_self
  | [e], c, n => by
    show (c, n) ∈ (if e.1 = c then [(c, n)] else [e, (c, n)])
    by_cases h : e.1 = c
    · rw [if_pos h]; exact List.mem_cons_self
    · rw [if_neg h]; exact List.mem_cons_of_mem _ List.mem_cons_self
  | e :: f :: r, c, n => List.mem_cons_of_mem _ (snocR_new (f :: r) c n)
theorem snocR_old : ∀ (E : List (Nat × Nat)) (c n : Nat) (x : Nat × Nat), x ∈ E → x.1 ≠ c → x ∈ snocR E c n
  | [], c, n, x, h, _ => by simp at h
  | [e], c, n, x, h, hc => by
    have e1 : x = e := by simpa using h
    subst e1
    show x ∈ (if x.1 = c then [(c, n)] else [x, (c, n)])
    rw [if_neg hc]
    exact List.mem_cons_self
  | e :: f :: r, c, n, x, h, hc => by
    rcases List.mem_cons.mp h with q | q
    · rw [q]
      exact List.mem_cons_self
    · exact List.mem_cons_of_mem _ (snocR_old (f :: r) c n x q hc)
theorem cn_end (c : Nat) : ∀ (n : Nat) (u : List Nat), u.length = n → c ∈ u → (c, cn u c) ∈ ends k0 u
  | 0, u, hn, h => by
    rw [List.eq_nil_of_length_eq_zero hn] at h
    simp at h
  | n + 1, u, hn, h => by
    obtain ⟨v, d, rfl⟩ : ∃ v d, u = v ++ [d] := by
      rcases List.eq_nil_or_concat u with e | ⟨v, d, e⟩
      · rw [e] at hn
        simp at hn
      · exact ⟨v, d, by rw [e, List.concat_eq_append]⟩
    have hv : v.length = n := by simpa using hn
    rw [ends_snoc]
    by_cases hd : c = d
    · subst hd
      rw [cn_snoc, put_same]
      have := snocR_new (ends k0 v) c (k0 c + (v.count c + 1))
      rw [show k0 c + (v.count c + 1) = cn v c + 1 from Nat.zero_add _] at this ⊢
      exact this
    · rw [cn_snoc, put_ne hd]
      have hc : c ∈ v := by
        rcases List.mem_append.mp h with q | q
        · exact q
        · exact absurd (by simpa using q) hd
      exact snocR_old _ _ _ _ (cn_end c n v hv hc) hd
theorem cn_le_last (u : List Nat) (c : Nat) : cn u c ≤ last u := by
  by_cases h : c ∈ u
  · exact le_last (mem_marks (cn_end c u.length u rfl h))
  · rw [show cn u c = 0 from List.count_eq_zero.mpr h]
    exact Nat.zero_le _
/-- the rows that make v of u -/
def rows2 (u v : List Nat) : List (List Nat) := if core u = core v then rowsOf ((gaps u).zip (gaps v)) else []
theorem gaps_eq_len {u v : List Nat} (h : core u = core v) : (gaps u).length = (gaps v).length := by
  rw [gaps_len, gaps_len, cores_len h]
theorem mem_rows2 {u v t : List Nat} : t ∈ rows2 u v ↔ core u = core v ∧ t.length = last u ∧ (∀ x ∈ t, 1 ≤ x) ∧ sd t k0 u = v := by
  unfold rows2
  by_cases h : core u = core v
  · rw [if_pos h, mem_rows _ _ _ (gaps_eq_len h)]
    constructor
    · rintro ⟨h1, h2, h3⟩
      exact ⟨h, h1, h2, (sd_iff h h2 h1).mpr h3⟩
    · rintro ⟨_, h1, h2, h3⟩
      exact ⟨h1, h2, (sd_iff h h2 h1).mp h3⟩
  · rw [if_neg h]
    constructor
    · intro q
      simp at q
    · rintro ⟨q, _⟩
      exact absurd q h
/-- the places of the blocks -/
theorem marks_succ {u : List Nat} {i a b : Nat} (ha : (marks u)[i]? = some a) (hb : (marks u)[i + 1]? = some b) : (gaps u)[i]? = some (b - a) ∧ a < b :=
  ⟨diffs_get _ _ _ _ ha hb, asc_lt (marks_asc u) ha hb (Nat.lt_succ_self i)⟩
theorem drop_get {α : Type} {l : List α} {i : Nat} {x : α} (h : l[i]? = some x) : l.drop i = x :: l.drop (i + 1) := by
  obtain ⟨hi, e⟩ := List.getElem?_eq_some_iff.mp h
  rw [List.drop_eq_getElem_cons hi, e]
theorem sum_take_le (l : List Nat) (n : Nat) : (l.take n).sum ≤ l.sum := by
  have : l.sum = (l.take n).sum + (l.drop n).sum := by
    conv => lhs; rw [← List.take_append_drop n l]
    rw [List.sum_append]
  omega
theorem flatten_take_le {α : Type} (l : List (List α)) (n : Nat) : (l.take n).flatten.length ≤ l.flatten.length := by
  conv => rhs; rw [← List.take_append_drop n l]
  rw [List.flatten_append, List.length_append]
  omega
end Sc

/-! ScMathE -/
/-! The rows the law collects, and their sums. -/
namespace Sc
theorem rows_sum : ∀ {AB : List (Nat × Nat)} {t : List Nat}, t ∈ rowsOf AB → t.sum = (AB.map (·.2)).sum
  | [], t, h => by
    rw [show rowsOf [] = [[]] from rfl, List.mem_singleton] at h
    rw [h]
    rfl
  | p :: r, t, h => by
    obtain ⟨s, hs, ht⟩ := List.mem_flatMap.mp (show t ∈ (sums p.1 p.2).flatMap fun s => (rowsOf r).map (s ++ ·) from h)
    obtain ⟨u, hu, rfl⟩ := List.mem_map.mp ht
    rw [List.sum_append, ((mem_sums _ _ _).mp hs).2.2, rows_sum hu, List.map_cons, List.sum_cons]
theorem zip_snd_sum : ∀ (A B : List Nat), ((A.zip B).map (·.2)).sum ≤ B.sum
  | [], _ => by simp
  | _ :: _, [] => by simp
  | a :: A, b :: B => by
    have := zip_snd_sum A B
    rw [List.zip_cons_cons, List.map_cons, List.sum_cons, List.sum_cons]
    show b + _ ≤ b + _
    omega
theorem sum_take_zip (A B : List Nat) (i : Nat) : (((A.zip B).take i).map (·.2)).sum ≤ B.sum := by
  rw [List.map_take]
  exact Nat.le_trans (sum_take_le _ _) (zip_snd_sum A B)
/-- the rows after i pairs -/
def rowsI (u v : List Nat) (i : Nat) : List (List Nat) := if core u = core v then rowsOf (((gaps u).zip (gaps v)).take i) else []
theorem rowsI_zero (u v : List Nat) : rowsI u v 0 = if core u = core v then [[]] else [] := rfl
theorem rowsI_all (u v : List Nat) : rowsI u v ((gaps u).zip (gaps v)).length = rows2 u v := by
  unfold rowsI rows2
  rw [List.take_length]
theorem rowsI_step {u v : List Nat} {i : Nat} {p : Nat × Nat} (h : ((gaps u).zip (gaps v))[i]? = some p) : rowsI u v (i + 1) = (rowsI u v i).flatMap fun t => (sums p.1 p.2).map (t ++ ·) := by
  unfold rowsI
  by_cases hc : core u = core v
  · rw [if_pos hc, if_pos hc, take_snoc h, rows_snoc]
    rfl
  · rw [if_neg hc, if_neg hc]
    rfl
theorem rowsI_few {u v : List Nat} (h : ∀ p ∈ (gaps u).zip (gaps v), p.1 ≤ 3 ∧ p.2 ≤ 40) (hs : (gaps v).sum ≤ 40) (i : Nat) : (rowsI u v i).length ≤ 16000000 := by
  unfold rowsI
  by_cases hc : core u = core v
  · rw [if_pos hc]
    exact rows_few (fun p hp => h p (List.mem_of_mem_take hp)) (Nat.le_trans (sum_take_zip _ _ i) hs)
  · rw [if_neg hc]
    exact Nat.zero_le _
theorem fmap_take {α β : Type} (l : List α) (F : α → List β) (j : Nat) : ((l.take j).flatMap F).length ≤ (l.flatMap F).length := by
  conv => rhs; rw [← List.take_append_drop j l]
  rw [List.flatMap_append, List.length_append]
  omega
theorem fmap_snoc {α β : Type} {l : List α} {F : α → List β} {j : Nat} {x : α} (h : l[j]? = some x) : (l.take (j + 1)).flatMap F = (l.take j).flatMap F ++ F x := by
  rw [take_snoc h, List.flatMap_append]
  simp
theorem rows2_lx (u v : List Nat) : (rows2 u v).Pairwise Lx := by
  unfold rows2
  by_cases hc : core u = core v
  · rw [if_pos hc]
    exact rows_lx _
  · rw [if_neg hc]
    exact List.Pairwise.nil
theorem rows2_ne {u v : List Nat} (h : 2 ≤ (rows2 u v).length) : ∀ r ∈ rows2 u v, r ≠ [] := by
  intro r hr e
  have hl : last u = 0 := by
    have := (mem_rows2.mp hr).2.1
    rw [e] at this
    exact this.symm
  have all : ∀ s ∈ rows2 u v, s = [] := fun s hs => List.eq_nil_of_length_eq_zero (by rw [(mem_rows2.mp hs).2.1, hl])
  have h0 := List.getElem_mem (show 0 < (rows2 u v).length by omega)
  have h1 := List.getElem_mem (show 1 < (rows2 u v).length by omega)
  have hp := List.pairwise_iff_getElem.mp (rows2_lx u v) 0 1 (by omega) (by omega) (by omega)
  rw [all _ h0, all _ h1] at hp
  exact lx_irrefl _ hp
theorem rows2_entry {u v r : List Nat} (h : r ∈ rows2 u v) {x : Nat} (hx : x ∈ r) : x ≤ (gaps v).sum := by
  unfold rows2 at h
  by_cases hc : core u = core v
  · rw [if_pos hc] at h
    have h1 := rows_sum h
    have h2 := zip_snd_sum (gaps u) (gaps v)
    have h3 : x ≤ r.sum := by
      clear h h1
      induction r with
      | nil => simp at hx
      | cons a l ih =>
        rw [List.sum_cons]
        rcases List.mem_cons.mp hx with e | e
        · omega
        · have := ih e
          omega
    omega
  · rw [if_neg hc] at h
    simp at h
theorem rows_length : ∀ {AB : List (Nat × Nat)} {t : List Nat}, t ∈ rowsOf AB → t.length = (AB.map (·.1)).sum
  | [], t, h => by
    rw [show rowsOf [] = [[]] from rfl, List.mem_singleton] at h
    rw [h]
    rfl
  | p :: r, t, h => by
    obtain ⟨s, hs, ht⟩ := List.mem_flatMap.mp (show t ∈ (sums p.1 p.2).flatMap fun s => (rowsOf r).map (s ++ ·) from h)
    obtain ⟨u, hu, rfl⟩ := List.mem_map.mp ht
    rw [List.length_append, ((mem_sums _ _ _).mp hs).1, rows_length hu, List.map_cons, List.sum_cons]
theorem zip_fst_sum : ∀ (A B : List Nat), ((A.zip B).map (·.1)).sum ≤ A.sum
  | [], _ => by simp
  | _ :: _, [] => by simp
  | a :: A, b :: B => by
    have := zip_fst_sum A B
    rw [List.zip_cons_cons, List.map_cons, List.sum_cons, List.sum_cons]
    show a + _ ≤ a + _
    omega
theorem rowsI_len {u v : List Nat} {i : Nat} {t : List Nat} (h : t ∈ rowsI u v i) : t.length ≤ last u := by
  unfold rowsI at h
  by_cases hc : core u = core v
  · rw [if_pos hc] at h
    rw [rows_length h, List.map_take]
    exact Nat.le_trans (sum_take_le _ _) (zip_fst_sum _ _)
  · rw [if_neg hc] at h
    simp at h
end Sc

/-! ScRulesA -/
/-! Rules of the layer that this program wants beside the layer's own. -/
namespace Sr
open PySem PySem.Spec PyProof.Rows L2

/-! ### a text of one sign, so often -/
theorem fold_rep (c : Nat) : ∀ (n : Nat) (acc : Array Nat), (List.replicate n (#[c] : Array Nat)).foldl (· ++ ·) acc = acc ++ (List.replicate n c).toArray
  | 0, acc => by simp
  | n + 1, acc => by
    rw [List.replicate_succ, List.foldl_cons, fold_rep c n, List.replicate_succ]
    apply Array.ext'
    simp
theorem mul_sign (c : Nat) (n : Int) : Txt.mul ⟨#[c]⟩ n = ⟨(List.replicate n.toNat c).toArray⟩ := by
  unfold Txt.mul
  by_cases h1 : n < 1
  · rw [if_pos h1, show n.toNat = 0 by omega]
    rfl
  · rw [if_neg h1]
    by_cases h2 : n = 1
    · subst h2
      rfl
    · have e : (n == 1 || (⟨#[c]⟩ : Str).length == 0) = false := by
        rw [Bool.or_eq_false_iff]
        exact ⟨beq_eq_false_iff_ne.mpr h2, rfl⟩
      rw [e, if_neg Bool.false_ne_true, fold_rep]
      congr 1
      apply Array.ext'
      simp
def rMulS : R2 := fun x y H Q => ∃ (c : Nat) (n : Int), x = .str ⟨#[c]⟩ ∧ y = .int n ∧ -1000000 ≤ n ∧ n ≤ 1000000 ∧ Q (.str ⟨(List.replicate n.toNat c).toArray⟩) H
section
variable {X : Cx}
theorem op_mulS : OpR X (binaryOp .Mult) rMulS := by
  intro pins s σ H x y v u Q I rx ry h
  obtain ⟨c, n, rfl, rfl, h1, h2, q⟩ := h
  obtain ⟨t, rfl⟩ := rx
  obtain ⟨t', rfl⟩ := ry
  have hl : (⟨#[c]⟩ : Str).length = 1 := rfl
  refine PySem.SB.mul ⟨?_, fun a b => ?_, fun a b => ?_⟩ fun t' k => ?_
  · rw [decide_eq_false (by omega), decide_eq_false (by omega)] <;> rfl
  · rw [hl]
    have a1 : (1 : Int) ≤ (2 ^ 63 - 1) / n := by
      rw [Int.le_ediv_iff_mul_le (by omega)]
      omega
    intro z
    omega
  · rw [hl]
    unfold Builtin.Str.tooLong
    rw [sizeLine_eq]
    exact decide_eq_false (by omega)
  · rw [mul_sign]
    exact ⟨.str ⟨(List.replicate n.toNat c).toArray⟩, H, I.tok _, ⟨_, rfl⟩, q⟩
end
end Sr

/-! ScRulesB -/
/-! What a for walks: enumerate of a text and of a tuple, zip of three lists. -/
namespace Sr
open PySem PySem.Spec PyProof.Rows L2

/-- n turns; Src says what stands in the heap and is walked; each turn gives a new tuple of Itm -/
def ItG (n : Nat) (Src : Hp → Prop) (Itm : Nat → List V → Prop) : It :=
  ⟨fun i H => i < n ∧ Src H, fun i H x H' => ∃ T xs, x = .ref T ∧ H T = none ∧ H' = upd H T (.tup xs) ∧ Itm i xs, fun i H => i = n ∧ Src H⟩
theorem turn_gen {P : Program} {w : World} {K : PySem.W.Frag} {elts : List Expr} {kk : Nat} {tpos : Pos} {it : Addr} {fp : List Addr} {n : Nat} {Src : Hp → Prop} {Itm : Nat → List V → Prop} {tn : Nat → Heap → Prop} (mem : it ∈ fp)
    (obj : ∀ i h, tn i h → ∀ b ∈ fp, ∃ o, h.get? b = some o ∧ ∀ v, o.data ≠ .cell v) (keep : ∀ i h h', tn i h → (∀ b ∈ fp, ∀ o, h.get? b = some o → h'.get? b = some o) → tn i h')
    (self : ∀ (A : Around) (i : Nat) (s : Shared) (Q : Value → Shared → Prop) (E : Value → Shared → Prop), tn i s.heap → Q (.ref it) s → wpAny (model P w) A (pyIter (.ref it)) Q E s)
    (src : ∀ (X : Cx), X.prog = P → X.w = w → X.K = K → ∀ (pins : List (Addr × Obj)) (s : Shared) (σ : L2.St) (H : Hp), Inv X pins σ H s → Src H → ∀ A : Around, A.handled = none →
      ∃ fp' wr Pt Stt Mid, WalksT P w A it fp' wr n Pt Stt Mid ∧ (∀ b ∈ wr, b ∈ fp) ∧ (∀ i, tn i s.heap → Stt i s.heap) ∧ (∀ i h, Stt i h → tn i h) ∧ ∀ i vals, Pt i vals → vals.size ≤ sizeLine ∧ ∃ xs, Itm i xs ∧ Vals xs vals.toList) :
    Turn P w K (.Tuple elts kk tpos) (ItG n Src Itm) fp it tn where
  mem := mem
  obj := obj
  keep := keep
  self := self
  item := by
    intro X hP hw hK hc i pins s σ H E I hf st hg
    obtain ⟨fp', wr, Pt, Stt, Mid, W, hwr, to, back, hv⟩ := src X hP hw hK pins s σ H I hg.2 X.A (I.ok.hd hc)
    subst hP hw hK
    refine W.item i s _ _ hg.1 (to i st) fun T vals h' tk hPt hT hTup hMid hk => ⟨.ref T, rfl, ?_⟩
    refine W.go elts kk tpos i T { s with heap := h', toks := tk } _ _ hMid fun h'' st' hk' => ?_
    have hTw := W.apart i T h' hMid
    obtain ⟨hz, xs, hx, rv⟩ := hv i vals hPt
    have hTup' : IsTup h'' T vals := by
      obtain ⟨o, ho, hcls, n', hd⟩ := hTup
      exact ⟨o, hk' T o hTw ho, hcls, n', hd⟩
    have new : ObjOk X.prog X.w (upd H T (.tup xs)) h'' T (.tup xs) := by
      refine ⟨?_, vals.toList, rv, ?_⟩
      · rw [rv.length, Array.length_toList]
        exact hz
      · rw [Array.toArray_toList]
        exact hTup'
    have I1 : Inv X pins σ (upd H T (.tup xs)) { s with heap := h'', toks := tk } :=
      I.turnedNew (ch := fp) (fun b o hb e => hk' b o (fun z => hb (hwr b z)) (hk b o (fun z => hb (hwr b z)) e)) hf hT new
    refine ⟨.ref T, _, I1, rfl, ⟨T, xs, rfl, I.hok.fresh hT, rfl, hx⟩, back _ _ st', fun b hb => ?_⟩
    obtain ⟨o, ho, _⟩ := obj i s.heap st b hb
    rw [upd_ne (Nat.ne_of_lt (Nat.lt_of_lt_of_le (Heap.lt_size ho) hT))]
    exact (hf b hb).1
  done := by
    intro X hP hw hK hc i pins s σ H E I hf st hg
    obtain ⟨fp', wr, Pt, Stt, Mid, W, hwr, to, back, hv⟩ := src X hP hw hK pins s σ H I hg.2 X.A (I.ok.hd hc)
    subst hP hw hK
    obtain ⟨e, _⟩ := hg
    subst e
    exact W.done s _ _ (to _ st) fun h' tk hk => ⟨rfl, I.turnedL (ch := fp) (fun b o hb e => hk b o (fun z => hb (hwr b z)) e) hf⟩
/-- a for over it -/
theorem walk_g {n : Nat} {Src : Hp → Prop} {Itm : Nat → List V → Prop} : Walk (ItG n Src Itm) n Src (fun i H v H' => ∃ T xs, v = .ref T ∧ H T = none ∧ H' = upd H T (.tup xs) ∧ Itm i xs) :=
  ⟨fun _ _ h q => ⟨h, q⟩, fun _ q => ⟨rfl, q⟩, fun _ _ _ _ _ _ y => y⟩

theorem strIter_obj {h : Heap} {it : Addr} {T : String} {x : Str} {t : Tok} {i : Nat} (q : h.IsStrIter it T x t i) : ∃ o, h.get? it = some o ∧ ∀ v, o.data ≠ .cell v := by
  obtain ⟨o, ho, _, hd⟩ := q
  exact ⟨o, ho, fun v z => by rw [hd] at z; cases z⟩
/-- enumerate(s), s a text -/
def iEnumS (ta : TA) : TI := fun σ H R => ta σ H fun vs H1 => ∃ z : Str, vs = [.str z] ∧ R (ItG z.cps.size (fun _ => True) (fun i xs => ∃ c, z.cps[i]? = some c ∧ xs = [.int (i : Nat), .str ⟨#[c]⟩])) H1
theorem pi_enumS {X : Cx} {e : Expr} {ta : TA} {p pos tpos : Pos} {elts : List Expr} {kk : Nat} (hg : Gl X "enumerate") (hm : X.mg "enumerate" = none) (ha : PA X [e] ta) (hs : starEach [e] X.env = [(false, eval e X.env)] := by rfl) :
    PI X (.Tuple elts kk tpos) (.Call (.Name "enumerate" p) [e] [] pos) (iEnumS ta) := by
  refine ⟨fun pins s σ H R I h => ?_⟩
  refine Call_ (ld_blt I hg hm boot_enumerate (PyProof.Rows.callWith_type1 (thn (ha.run pos pins s σ H _ I h) fun us s1 ⟨vs, H1, I1, r1, q1⟩ => ?_) hs rfl))
  obtain ⟨z, ex, q⟩ := q1
  subst ex
  cases r1 with
  | cons r rr =>
    cases rr
    obtain ⟨t, rfl⟩ := r
    refine call_enumerate_str fun h' he hit hsz hk => wpAny_pyIter_enum he ?_
    have I2 : Inv X pins σ H1 { s1 with heap := h' } := I1.kept (t' := s1.toks) hk
    refine ⟨s1.heap.objs.size + 1, [s1.heap.objs.size + 1, s1.heap.objs.size], (fun i h => (∃ old, IsEnum h (s1.heap.objs.size + 1) s1.heap.objs.size (0 + ((i : Nat) : Int)) old) ∧ h.IsStrIter s1.heap.objs.size (strIterType z) z t i), _, H1, rfl, I2, turn_gen (by simp) ?_ ?_ ?_ ?_, ⟨⟨.none, by simpa using he⟩, hit⟩, fun b hb => ?_, q⟩
    · intro i h st b hb
      obtain ⟨⟨old, he'⟩, hi⟩ := st
      have e' : b = s1.heap.objs.size + 1 ∨ b = s1.heap.objs.size := by simpa using hb
      rcases e' with y | y
      · rw [y]; exact ⟨_, he', fun v q => nomatch q⟩
      · rw [y]; exact strIter_obj hi
    · intro i h h' st k
      obtain ⟨⟨old, he'⟩, ⟨o, ho, r⟩⟩ := st
      exact ⟨⟨old, k _ (by simp) _ he'⟩, ⟨o, k _ (by simp) _ ho, r⟩⟩
    · intro A i s Q E st hq
      obtain ⟨⟨_, he'⟩, _⟩ := st
      exact wpAny_pyIter_enum he' hq
    · intro X' hP hw hK pins' s' σ' H' I' _ A hA
      refine ⟨_, _, _, _, _, WalksT.enumFrom 0 (Draws.text (A := A.in1) hA s1.heap.objs.size z t) (s1.heap.objs.size + 1) (Nat.succ_ne_self _) (by simp) (by simp), fun b hb => by simpa using hb, fun i st => st, fun i h st => st, fun i vals hv => ?_⟩
      obtain ⟨tk, x, ⟨c, u, hc, rfl⟩, rfl⟩ := hv
      refine ⟨by show 2 ≤ sizeLine; decide, [.int (i : Nat), .str ⟨#[c]⟩], ⟨c, hc, rfl⟩, .cons ⟨tk, ?_⟩ (.cons ⟨u, rfl⟩ .nil)⟩
      rw [Int.zero_add]
    · have e' : b = s1.heap.objs.size + 1 ∨ b = s1.heap.objs.size := by simpa using hb
      have hle : s1.heap.objs.size ≤ b := by
        rcases e' with y | y
        · rw [y]; exact Nat.le_add_right _ _
        · rw [y]; exact Nat.le_refl _
      exact I1.fpOk hle (I1.hok.fresh hle)

/-! ### enumerate(t), t a tuple -/
theorem meets_enum1 {v : Value} {o : Obj} {B : Heap → Prop} (b : Begins v o B) :
    Meets (Builtin.«enumerate.__new__» ⟨[.type "enumerate", v], []⟩) (fun _ R s => B s.heap ∧
      R (.ok (.ret (.ref (s.heap.push o).objs.size))) { s with heap := (s.heap.push o).push { cls := .type "enumerate", data := .fields #[.none, .bool false, .ref s.heap.objs.size, rawInt 0, .none, .none] } }) :=
  .of_wp fun prog w A R s h => by
    obtain ⟨hp, g, d, tk, os⟩ := s
    obtain ⟨h1, h⟩ := h
    have hsub := sub_enumerate
    have begin_ : ∀ {A' : Around} {E : Value → Shared → Prop} {Q : Value → Shared → Prop}, Q (.ref hp.objs.size) ⟨hp.push o, g, d, tk, os⟩ → wpAny (model prog w) A' (pyIter v) Q E ⟨hp, g, d, tk, os⟩ :=
      fun q => b.iter prog w _ _ _ _ h1 q
    wp_walk using begin_
    refine wpAny_stack_any fun st => wpAny_pure ?_
    split
    · rename_i c _ _ _ _ _
      cases (c == Value.type "enumerate") <;> (wp_walk using begin_; exact ⟨_, rfl, h⟩)
    · wp_walk using begin_
      exact ⟨_, rfl, h⟩
section
variable {prog : Program} {w : World} {A : Around} {E : Value → Shared → Prop} {s : Shared}
theorem enum1 {v : Value} {o : Obj} {B : Heap → Prop} {Q : Value → Shared → Prop} (b : Begins v o B) (h1 : B s.heap)
    (h : ∀ h', IsEnum h' (s.heap.objs.size + 1) s.heap.objs.size 0 .none → h'.get? s.heap.objs.size = some o → (∀ b o, s.heap.get? b = some o → h'.get? b = some o) → Q (.ref (s.heap.objs.size + 1)) { s with heap := h' }) :
    wpAny (model prog w) A (call (.type "enumerate") [v]) Q E s := by
  refine callType_new F.called_enumerate (by decide) (F.typeCall_enumerate_1 _) (F.newCall_enumerate_1 _) (fun obj => F.args_object_init_2 obj _) F.entry_enumerate_new (meets_enum1 b) ⟨h1, ?_⟩
  have hz : (s.heap.push o).objs.size = s.heap.objs.size + 1 := Heap.size_push ..
  have he := Heap.get?_push_size (s.heap.push o) (o := { cls := .type "enumerate", data := .fields #[.none, .bool false, .ref s.heap.objs.size, rawInt 0, .none, .none] }) rfl
  rw [hz] at he
  show _ ∧ _
  rw [hz]
  exact ⟨⟨_, he, rfl⟩, h _ he (Heap.get?_push_of_some _ (Heap.get?_push_size _ b.free)) fun b o x => Heap.get?_push_of_some _ (Heap.get?_push_of_some _ x)⟩
end
def iEnumT (K : PySem.W.Frag) (ta : TA) : TI := fun σ H R => ta σ H fun vs H1 => ∃ (a : Addr) (xs : List V), vs = [.ref a] ∧ SqT K H1 a xs ∧ R (ItG xs.length (fun H => SqT K H a xs) (fun i ys => ∃ x, xs[i]? = some x ∧ ys = [.int (i : Nat), x])) H1
theorem pi_enumT {X : Cx} {e : Expr} {ta : TA} {p pos tpos : Pos} {elts : List Expr} {kk : Nat} (hg : Gl X "enumerate") (hm : X.mg "enumerate" = none) (ha : PA X [e] ta) (hs : starEach [e] X.env = [(false, eval e X.env)] := by rfl) :
    PI X (.Tuple elts kk tpos) (.Call (.Name "enumerate" p) [e] [] pos) (iEnumT X.K ta) := by
  refine ⟨fun pins s σ H R I h => ?_⟩
  refine Call_ (ld_blt I hg hm boot_enumerate (PyProof.Rows.callWith_type1 (thn (ha.run pos pins s σ H _ I h) fun us s1 ⟨vs, H1, I1, r1, q1⟩ => ?_) hs rfl))
  obtain ⟨a, xs, ex, hq, q⟩ := q1
  subst ex
  cases r1 with
  | cons r rr =>
    cases rr
    cases r
    obtain ⟨its, rv, tp, hz⟩ := I1.tuple hq
    obtain ⟨oa, hoa, _⟩ := id tp
    have hal : a < s1.heap.objs.size := Heap.lt_size hoa
    refine enum1 (begins_tuple a its.toArray) tp fun h' he hit hk => wpAny_pyIter_enum he ?_
    have I2 : Inv X pins σ H1 { s1 with heap := h' } := I1.kept (t' := s1.toks) hk
    refine ⟨s1.heap.objs.size + 1, [s1.heap.objs.size + 1, s1.heap.objs.size], (fun i h => (∃ old, IsEnum h (s1.heap.objs.size + 1) s1.heap.objs.size (0 + ((i : Nat) : Int)) old) ∧ h.IsTupleIter s1.heap.objs.size a i), _, H1, rfl, I2, turn_gen (by simp) ?_ ?_ ?_ ?_, ⟨⟨.none, by simpa using he⟩, ⟨_, hit, rfl, rfl⟩⟩, fun b hb => ?_, q⟩
    · intro i h st b hb
      obtain ⟨⟨old, he'⟩, ⟨o, ho, _, hd⟩⟩ := st
      have e' : b = s1.heap.objs.size + 1 ∨ b = s1.heap.objs.size := by simpa using hb
      rcases e' with y | y
      · rw [y]; exact ⟨_, he', fun v q => nomatch q⟩
      · rw [y]; exact ⟨o, ho, fun v z => by rw [hd] at z; cases z⟩
    · intro i h h' st k
      obtain ⟨⟨old, he'⟩, ⟨o, ho, r⟩⟩ := st
      exact ⟨⟨old, k _ (by simp) _ he'⟩, ⟨o, k _ (by simp) _ ho, r⟩⟩
    · intro A i s Q E st hq
      obtain ⟨⟨_, he'⟩, _⟩ := st
      exact wpAny_pyIter_enum he' hq
    · intro X' hP hw hK pins' s' σ' H' I' hS A hA
      rw [← hK] at hS
      obtain ⟨its', rv', tp', _⟩ := I'.tuple hS
      have hne : a ≠ s1.heap.objs.size := Nat.ne_of_lt hal
      have hne1 : a ≠ s1.heap.objs.size + 1 := Nat.ne_of_lt (Nat.lt_succ_of_lt hal)
      have hsz : its'.toArray.size = xs.length := by rw [List.size_toArray, rv'.length]
      have W := WalksT.enumFrom (prog := X'.prog) (w := X'.w) (A := A) 0 (Draws.tuple (A := A.in1) hA s1.heap.objs.size a hne its'.toArray) (s1.heap.objs.size + 1) (Nat.succ_ne_self _) (by simp [Ne.symm hne1]) (by simp)
      rw [hsz, hP, hw] at W
      refine ⟨_, _, _, _, _, W, fun b hb => by simpa using hb, fun i st => ⟨st.1, st.2, tp'⟩, fun i h st => ⟨st.1, st.2.1⟩, fun i vals hv => ?_⟩
      obtain ⟨tk, x, hx, rfl⟩ := hv
      obtain ⟨v, hv1, hv2⟩ : ∃ v, xs[i]? = some v ∧ RelV v x := by
        have hi : i < its'.length := by
          have := (Array.getElem?_eq_some_iff.mp hx).1
          simpa using this
        have hi2 : i < xs.length := by rw [rv'.length]; exact hi
        obtain ⟨u, hu, ru⟩ := rv'.get (List.getElem?_eq_getElem hi2)
        have e : its'.toArray[i]? = its'[i]? := by simp
        rw [e, hu] at hx
        cases hx
        exact ⟨_, List.getElem?_eq_getElem hi2, ru⟩
      refine ⟨by show 2 ≤ sizeLine; decide, [.int (i : Nat), v], ⟨v, hv1, rfl⟩, .cons ⟨tk, ?_⟩ (.cons hv2 .nil)⟩
      rw [Int.zero_add]
    · have e' : b = s1.heap.objs.size + 1 ∨ b = s1.heap.objs.size := by simpa using hb
      have hle : s1.heap.objs.size ≤ b := by
        rcases e' with y | y
        · rw [y]; exact Nat.le_add_right _ _
        · rw [y]; exact Nat.le_refl _
      exact I1.fpOk hle (I1.hok.fresh hle)

/-! ### zip of three lists -/
theorem getV {xs : List V} {its : List Value} (rv : Vals xs its) {i : Nat} {x : Value} (hx : its.toArray[i]? = some x) : ∃ v, xs[i]? = some v ∧ RelV v x := by
  have e : its.toArray[i]? = its[i]? := by simp
  rw [e] at hx
  have hi := (List.getElem?_eq_some_iff.mp hx).1
  have hi2 : i < xs.length := by rw [rv.length]; exact hi
  obtain ⟨u, hu, ru⟩ := rv.get (List.getElem?_eq_getElem hi2)
  rw [hu] at hx
  cases hx
  exact ⟨_, List.getElem?_eq_getElem hi2, ru⟩
def iZip3 (K : PySem.W.Frag) (ta : TA) : TI := fun σ H R => ta σ H fun vs H1 => ∃ (a b c : Addr) (xs ys zs : List V), vs = [.ref a, .ref b, .ref c] ∧ SqL K H1 a xs ∧ SqL K H1 b ys ∧ SqL K H1 c zs ∧
  R (ItG (min (min xs.length ys.length) zs.length) (fun H => SqL K H a xs ∧ SqL K H b ys ∧ SqL K H c zs) (fun i r => ∃ x y z, xs[i]? = some x ∧ ys[i]? = some y ∧ zs[i]? = some z ∧ r = [x, y, z])) H1
theorem pi_zip3 {X : Cx} {e e2 e3 : Expr} {ta : TA} {p pos tpos : Pos} {elts : List Expr} {kk : Nat} (hg : Gl X "zip") (hm : X.mg "zip" = none) (ha : PA X [e, e2, e3] ta)
    (hs : starEach [e, e2, e3] X.env = (false, eval e X.env) :: starEach [e2, e3] X.env := by rfl) (hpl : (backTo pos (starEach [e2, e3] X.env)).any (·.1) = false := by rfl) :
    PI X (.Tuple elts kk tpos) (.Call (.Name "zip" p) [e, e2, e3] [] pos) (iZip3 X.K ta) := by
  refine ⟨fun pins s σ H R I h => ?_⟩
  refine Call_ (ld_blt I hg hm PyProof.Rows.boot_zip (PyProof.Rows.callWith_type1 (thn (ha.run pos pins s σ H _ I h) fun us s1 ⟨vs, H1, I1, r1, q1⟩ => ?_) hs hpl))
  obtain ⟨a, b, c, xs, ys, zs, ex, hqx, hqy, hqz, q⟩ := q1
  subst ex
  obtain ⟨u1, u2, u3, rfl, r1', r2', r3'⟩ : ∃ u1 u2 u3, us = [u1, u2, u3] ∧ RelV (V.ref a) u1 ∧ RelV (V.ref b) u2 ∧ RelV (V.ref c) u3 := by
    cases r1 with
    | cons p q => cases q with
      | cons p' q' => cases q' with
        | cons p'' q'' => cases q''; exact ⟨_, _, _, rfl, p, p', p''⟩
  cases r1'
  cases r2'
  cases r3'
  obtain ⟨i1, rv1, p1, _⟩ := I1.list hqx
  obtain ⟨i2, rv2, p2, _⟩ := I1.list hqy
  obtain ⟨i3, rv3, p3, _⟩ := I1.list hqz
  have la := p1.lt
  have lb := p2.lt
  have lc := p3.lt
  refine zip_begins3 (begins_list a i1.toArray) (begins_list b i2.toArray) (begins_list c i3.toArray) p1.isList p2.isList p3.isList fun h' hz hTI hTO h1 h2 h3 hsz hk => wpAny_pyIter_zip hz ?_
  have I2 : Inv X pins σ H1 { s1 with heap := h' } := I1.kept (t' := s1.toks) hk
  generalize hN : s1.heap.objs.size = N at *
  have S := zip_sep3 (N := N) (fp1 := [a]) (fp2 := [b]) (fp3 := [c]) (by simpa using la) (by simpa using lb) (by simpa using lc)
  refine ⟨N + 5, [N + 5, N + 3, N + 4, N, N + 1, N + 2], (fun i h => IsZip h (N + 5) (N + 3) (N + 4) .none ∧ IsTupOf3 h (N + 3) (.ref N) (.ref (N + 1)) (.ref (N + 2)) ∧ (∃ x y z, IsTupOf3 h (N + 4) x y z) ∧ h.IsListIter N a i ∧ h.IsListIter (N + 1) b i ∧ h.IsListIter (N + 2) c i), _, H1, rfl, I2, turn_gen (by simp) ?_ ?_ ?_ ?_, ⟨hz, hTI, ⟨_, _, _, hTO⟩, ⟨_, h1, rfl, rfl⟩, ⟨_, h2, rfl, rfl⟩, ⟨_, h3, rfl, rfl⟩⟩, fun m hb => ?_, q⟩
  · intro i h st m hb
    obtain ⟨hz, hTI, ⟨x, y, z, hTO⟩, ⟨o1, e1, _, d1⟩, ⟨o2, e2, _, d2⟩, ⟨o3, e3, _, d3⟩⟩ := st
    have e' : m = N + 5 ∨ m = N + 3 ∨ m = N + 4 ∨ m = N ∨ m = N + 1 ∨ m = N + 2 := by simpa using hb
    rcases e' with y | y | y | y | y | y
    · rw [y]; exact ⟨_, hz, fun v q => nomatch q⟩
    · rw [y]; exact ⟨_, hTI, fun v q => nomatch q⟩
    · rw [y]; exact ⟨_, hTO, fun v q => nomatch q⟩
    · rw [y]; exact ⟨o1, e1, fun v q => by rw [d1] at q; cases q⟩
    · rw [y]; exact ⟨o2, e2, fun v q => by rw [d2] at q; cases q⟩
    · rw [y]; exact ⟨o3, e3, fun v q => by rw [d3] at q; cases q⟩
  · intro i h h' st k
    obtain ⟨hz, hTI, ⟨x, y, z, hTO⟩, q1, q2, q3⟩ := st
    exact ⟨k _ (by simp) _ hz, k _ (by simp) _ hTI, ⟨x, y, z, k _ (by simp) _ hTO⟩, q1.at fun o e => k _ (by simp) o e, q2.at fun o e => k _ (by simp) o e, q3.at fun o e => k _ (by simp) o e⟩
  · intro A i s Q E st hq
    exact wpAny_pyIter_zip st.1 hq
  · intro X' hP hw hK pins' s' σ' H' I' hS A hA
    rw [← hK] at hS
    obtain ⟨sa, sb, sc⟩ := hS
    obtain ⟨j1, w1, m1, _⟩ := I'.list sa
    obtain ⟨j2, w2, m2, _⟩ := I'.list sb
    obtain ⟨j3, w3, m3, _⟩ := I'.list sc
    have na : a ≠ N := Nat.ne_of_lt la
    have nb : b ≠ N + 1 := Nat.ne_of_lt (Nat.lt_succ_of_lt lb)
    have nc : c ≠ N + 2 := Nat.ne_of_lt (Nat.lt_succ_of_lt (Nat.lt_succ_of_lt lc))
    have W := WalksT.zipD3 (prog := X'.prog) (w := X'.w) (A := A) S (Draws.list (A := A.in1) hA N a na j1.toArray) (Draws.list (A := A.in1) hA (N + 1) b nb j2.toArray) (Draws.list (A := A.in1) hA (N + 2) c nc j3.toArray)
    have z1 : j1.toArray.size = xs.length := by rw [List.size_toArray, w1.length]
    have z2 : j2.toArray.size = ys.length := by rw [List.size_toArray, w2.length]
    have z3 : j3.toArray.size = zs.length := by rw [List.size_toArray, w3.length]
    rw [z1, z2, z3, hP, hw] at W
    refine ⟨_, _, _, _, _, W, fun m hb => ?_, fun i st => ⟨st.1, st.2.1, st.2.2.1, ⟨st.2.2.2.1, m1.isList⟩, ⟨st.2.2.2.2.1, m2.isList⟩, ⟨st.2.2.2.2.2, m3.isList⟩⟩, fun i h st => ⟨st.1, st.2.1, st.2.2.1, st.2.2.2.1.1, st.2.2.2.2.1.1, st.2.2.2.2.2.1⟩, fun i vals hv => ?_⟩
    · have e' : m = N + 5 ∨ m = N + 4 ∨ m = N ∨ m = N + 1 ∨ m = N + 2 := by simpa using hb
      rcases e' with y | y | y | y | y <;> simp [y]
    · obtain ⟨x, y, z, hx, hy, hz', rfl⟩ := hv
      obtain ⟨v1, f1, g1⟩ := getV w1 hx
      obtain ⟨v2, f2, g2⟩ := getV w2 hy
      obtain ⟨v3, f3, g3⟩ := getV w3 hz'
      exact ⟨by show 3 ≤ sizeLine; decide, [v1, v2, v3], ⟨v1, v2, v3, f1, f2, f3, rfl⟩, .cons g1 (.cons g2 (.cons g3 .nil))⟩
  · have e' : m = N + 5 ∨ m = N + 3 ∨ m = N + 4 ∨ m = N ∨ m = N + 1 ∨ m = N + 2 := by simpa using hb
    have hle : N ≤ m := by
      rcases e' with y | y | y | y | y | y <;> rw [y] <;> first | exact Nat.le_refl _ | exact Nat.le_add_right _ _
    rw [← hN] at hle
    exact I1.fpOk hle (I1.hok.fresh hle)
end Sr

/-! ScRulesC -/
/-! Calls by values: sum of a tuple, (x,) * 1, set of a list of ints, sorted of rows that stand sorted. -/
namespace Sr
open PySem PySem.Spec PyProof.Rows L2

/-! ### sum(t), t a tuple of ints -/
def rSumT (K : PySem.W.Frag) : List V → Hp → VK → Prop := fun vs H Q => ∃ (a : Addr) (ns : List Int), vs = [V.ref a] ∧ SqT K H a (ns.map V.int) ∧ Q (.int ns.sum) H
section
variable {X : Cx}
theorem cr_sumT (hc : X.calm = true) : CallR X (.builtin "sum") (rSumT X.K) := by
  intro pins s σ H vs us Q I r h
  obtain ⟨a, ns, rfl, hs, q⟩ := h
  obtain ⟨its, rv, ht, _⟩ := I.tuple hs
  rw [Vals.ref1 r]
  obtain ⟨xs, hx⟩ := (rv.ints).allInts.items
  have ht' : s.heap.IsTuple a its.toArray := ht
  have hn : numsOf its.toArray.toList = ns := by rw [show its.toArray.toList = its from rfl, (rv.ints).numsOf]
  rw [hx] at ht' hn
  rw [nums_intItems] at hn
  refine PySem.W.ktm_sumG (I.ok.hd hc) ht' fun h' tk t' hk => ?_
  have e : preSum (numAt xs) xs.size = ns.sum := by rw [preSum_eq, List.take_of_length_le (by simp), hn]
  rw [e]
  exact ⟨.int _, H, I.kept hk, ⟨_, rfl⟩, q⟩
end

/-! ### set(l), l a list of ints -/
abbrev newSet (w : World) : Obj := { cls := .type "set", dict := none, data := .set #[] 0 (.fresh 0 0 (!w.params.followText "set-order")) }
abbrev listIt (l : Addr) : Obj := { cls := .type "list_iterator", data := .fields #[.ref l, .int 0 0] }
section
variable {P : Program} {w : World} {A : Around} {E : Value → Shared → Prop} {s : Shared}
theorem set_ints {l : Addr} {items : Array Value} (ns : List Int) {Q : Value → Shared → Prop} (hh : A.handled = none) (hl : s.heap.IsList l items) (hit : IntsAre items.toList ns) (hb : ns.length + 1 < scanBound)
    (h : ∀ (h' : Heap) (tk c : Nat), SetR w h' s.heap.objs.size (fun j => decide (j ∈ ns)) c → c ≤ ns.length → (∀ b o, s.heap.get? b = some o → h'.get? b = some o) → Q (.ref s.heap.objs.size) { s with heap := h', toks := tk }) :
    wpAny (model P w) A (call (.type "set") [.ref l]) Q E s := by
  have hisz : items.size = ns.length := by
    rw [← Array.length_toList]
    exact IntsAre.length hit
  have mro := F.called_set.mro
  obtain ⟨c0, tl, hmro⟩ := mro
  have f1 := F.called_set.made
  have f2 := F.called_set.sub
  have f3 := F.called_set.notType
  have f4 := F.called_set.canCreate
  have f5 := F.typeCall_set_1 (.ref l)
  refine wpAny_call (codeAny_of_tree ?_)
  show wpAny _ _ (callAny (.type "set") _) _ _ _
  refine wpAny_pure ⟨Code.quiet_builtin _ (by decide +kernel), codeAny_builtin F.entry_type_call ?_⟩
  rw [Around.under_plain (weight_type_call_type "set" [.ref l] []) rfl]
  repeat (any_goals (first | assumption | wp_step))

  refine codeAny_mono (code_set_led1 (.ref l) (E := E) (Q₁ := fun v s₁ => v = .ref s.heap.objs.size ∧ s₁ = { s with heap := s.heap.push (newSet w) }) ⟨rfl, rfl⟩) fun r s₁ hr => ?_
  cases r with
  | error e => exact hr
  | ok fl =>
    cases fl with
    | ret v =>
      obtain ⟨rfl, rfl⟩ := hr
      have gS : (s.heap.push (newSet w)).get? s.heap.objs.size = some (newSet w) := Heap.get?_push_size _ rfl
      have tS : Shared.TypeIs { s with heap := s.heap.push (newSet w) } (.ref s.heap.objs.size) "set" := ⟨_, gS, rfl⟩
      have g1 := F.called_set.init.lookup
      have g2 := F.called_set.init.bind (.ref s.heap.objs.size)
      repeat (any_goals (first | assumption | wp_step))

      refine codeAny_mono (codeAny_call_builtin (R := wants (fun r s₂ => r = .none ∧ ∃ h' tk c, s₂ = { s with heap := h', toks := tk } ∧ SetR w h' s.heap.objs.size (fun j => decide (j ∈ ns)) c ∧ c ≤ ns.length ∧ ∀ b o, s.heap.get? b = some o → h'.get? b = some o) E)
        F.called_set.init.plain F.entry_set_init (check_set_init_1 tS ?_)) fun r₂ s₂ hr₂ => ?_
      · have lt := hl
        obtain ⟨ol, hol, hcl, nl, hdl⟩ := hl
        obtain ⟨ocls, odict, odata, oslots⟩ := ol
        simp only at hcl hdl
        subst hcl hdl
        have hol' := Heap.get?_push_of_some (newSet w) hol
        have k1 := F.sub_list_set
        have k2 := F.sub_list_frozenset
        have k3 : (Value.type "list" == Value.type "dict") = false := by decide
        have isl : (s.heap.push (newSet w)).IsList l items := ⟨_, hol', rfl, nl, rfl⟩
        unfold Builtin.«set.__init__» noKeywords Builtin.Frozenset.updateFrom
        generalize hPI : pyIter = PI
        wp_walk
        subst hPI

        refine wpAny_pyIter_list isl ?_
        refine wpAny_bind (wpAny_runValue ?_)
        have ll : l < s.heap.objs.size := Heap.lt_size hol
        have sz : (s.heap.push (newSet w)).objs.size = s.heap.objs.size + 1 := Heap.size_push ..
        have nI : l ≠ (s.heap.push (newSet w)).objs.size := by
          rw [sz]
          exact Nat.ne_of_lt (Nat.lt_succ_of_lt ll)
        have nS : s.heap.objs.size ∉ [(s.heap.push (newSet w)).objs.size, l] := by
          rw [sz]
          intro z
          rcases List.mem_cons.mp z with z | z
          · exact Nat.ne_of_lt (Nat.lt_succ_self _) z
          · exact Nat.ne_of_gt ll (List.mem_singleton.mp z)
        have at_ : ∀ (i : Nat) (v : Value), items[i]? = some v → ∃ k t, ns[i]? = some k ∧ v = .int k t := fun i v hv => by
          have hi : i < ns.length := by
            rw [← hisz]
            exact (Array.getElem?_eq_some_iff.mp hv).1
          obtain ⟨t, e⟩ := PyProof.Rows.IntsAre.int_at hit i v (by rw [Array.getElem?_toList]; exact hv)
          exact ⟨ns[i], t, List.getElem?_eq_getElem hi, by rw [e, List.getD_eq_getElem?_getD, List.getElem?_eq_getElem hi] <;> rfl⟩
        have hh3 : A.in1.in1.in1.handled = none := by simp [hh]
        refine set_update_ints ((Walks.list hh3 _ l nI items).toS) s.heap.objs.size nS ns hisz hb at_ (items.size - 0) 0 _ (by omega) (Nat.zero_le _) ⟨⟨_, Heap.get?_push_size _ rfl, rfl, rfl⟩, isl.push _⟩
          ⟨0, Nat.le_refl 0, setR_new_at (Heap.get?_push_of_some (listIt l) gS)⟩ fun s' c' hm hc' hS' => ?_
        obtain ⟨h', g', d', tk', os'⟩ := s'
        have e1 : g' = s.gens := hm.gens
        have e2 : d' = s.drawn := hm.drawn
        have e3 : os' = s.os := hm.os
        subst e1 e2 e3
        show wpAny _ _ _ _ _ _
        refine wpAny_pure ?_
        show wpAny _ _ (ret Value.none) _ _ _
        rw [hisz] at hc'
        refine wpAny_pure ⟨rfl, h', tk', c', rfl, hS', hc', fun b o e => hm.heap b o (fun z => ?_) (Heap.get?_push_of_some _ (Heap.get?_push_of_some _ e))⟩
        have lb : b < s.heap.objs.size := Heap.lt_size e
        rcases List.mem_cons.mp z with z | z
        · exact Nat.ne_of_lt lb z
        · have z' := List.mem_singleton.mp z
          rw [sz] at z'
          exact Nat.ne_of_lt (Nat.lt_succ_of_lt lb) z'
      · cases r₂ with
        | error e => exact hr₂
        | ok fl₂ =>
          cases fl₂ with
          | ret r =>
            obtain ⟨rfl, h', tk, c', rfl, hS', hc', hk'⟩ := hr₂
            repeat (any_goals (first | assumption | wp_step))
            exact h _ _ _ hS' hc' hk'
          | _ => exact hr₂.elim
    | _ => exact hr.elim
end
def rSetL (K : PySem.W.Frag) (w : World) : List V → Hp → VK → Prop := fun vs H Q => ∃ (a : Addr) (ns : List Int), vs = [V.ref a] ∧ SqL K H a (ns.map V.int) ∧ ns.length + 1 < scanBound ∧
  ∀ p c, H p = none → c ≤ ns.length → Q (.ref p) (upd H p (SetO w p (fun j => decide (j ∈ ns)) c))
section
variable {X : Cx}
theorem cr_setL (hc : X.calm = true) : CallR X (.type "set") (rSetL X.K X.w) := by
  intro pins s σ H vs us Q I r h
  obtain ⟨a, ns, rfl, hs, hb, q⟩ := h
  obtain ⟨its, rv, hl, _⟩ := I.list hs
  rw [Vals.ref1 r]
  refine set_ints ns (I.ok.hd hc) hl.isList rv.ints hb fun h' tk c R hcn hk => ?_
  exact ⟨.ref _, upd H s.heap.objs.size (SetO X.w s.heap.objs.size (fun j => decide (j ∈ ns)) c), I.laid (t' := tk) hk (Nat.le_refl _) (setO_new R), rfl, q _ c (I.hok.fresh (Nat.le_refl _)) hcn⟩
end

/-! ### (x,) * 1 -/
theorem tuple_mul1 (l : Addr) (items : Array Value) (n : Nat) (dd : Option Addr) (sl : Array (Option Value)) (u : Tok) :
    Meets (Builtin.«tuple.__mul__» ⟨[.ref l, .int 1 u], []⟩) (fun _ R s => s.heap.get? l = some { cls := .type "tuple", dict := dd, data := .seq items n, slots := sl } ∧ R (.ok (.ret (Value.ref l))) s) :=
  .of_wp fun prog w A R s h => by
    obtain ⟨hp, g, d, tk, os⟩ := s
    obtain ⟨hl, h⟩ := h
    have f1 := AutoSeq1.idx_int
    wp_walk using AutoSeq1.wpAny_loadPart' hl
    exact ⟨_, rfl, h⟩
def rRep1 (K : PySem.W.Frag) : R2 := fun x y H Q => ∃ l xs, x = .ref l ∧ y = .int 1 ∧ SqT K H l xs ∧ Q (.ref l) H
section
variable {X : Cx}
theorem op_rep1 : OpR X (binaryOp .Mult) (rRep1 X.K) := by
  intro pins s σ H x y v u Q I rx ry h
  obtain ⟨l, xs, rfl, rfl, hT, q⟩ := h
  cases rx
  obtain ⟨t, rfl⟩ := ry
  obtain ⟨its, r, ⟨⟨cls, dd, data, sl⟩, ho, hc, n, hd⟩, hs⟩ := I.tuple hT
  simp only at hc hd
  subst hc hd
  exact wpAny_binaryOp_repeat_ref (T := "tuple") (U := "int") (by decide) ⟨_, ho, rfl⟩ (fun s' => typeIs_int s' 1 t) noFill_tuple_mul F.fills_int_mul F.slot_int_rmul repeat_tuple F.slot_int_index.lookup
    (call_meets F.slot_int_rmul (typeIs_int s 1 t) F.entry_int_rmul (F.args_int_rmul_2 _ _) (int_rmul_tuple 1 t l its.toArray n dd sl)
      ⟨ho, rfl, ⟨_, ho, rfl⟩, call_meets F.slot_tuple_mul ⟨_, ho, rfl⟩ F.entry_tuple_mul (F.args_tuple_mul_2 _ _) (tuple_mul1 l its.toArray n dd sl t) ⟨ho, ⟨.ref l, H, I, rfl, q⟩⟩⟩)
end

end Sr

/-! ScRulesD -/
namespace Sr
open PySem PySem.Spec PyProof.Rows L2
/-! ### sorted(l), l a list of rows of numbers that stands sorted -/
theorem sorted_uniq {α : Type} {lt : α → α → Bool} : ∀ {l m : List α}, l.Pairwise (fun x y => lt x y = true) → m.Pairwise (fun x y => lt y x = false) → m.Perm l → m = l
  | [], m, _, _, p => p.eq_nil
  | x :: l, [], _, _, p => absurd p.length_eq (by simp)
  | x :: l, y :: m, hl, hm, p => by
    obtain ⟨l1, l2⟩ := List.pairwise_cons.mp hl
    obtain ⟨m1, m2⟩ := List.pairwise_cons.mp hm
    have e : y = x := by
      rcases List.mem_cons.mp (p.mem_iff.mp List.mem_cons_self) with e | hy
      · exact e
      · rcases List.mem_cons.mp (p.mem_iff.mpr List.mem_cons_self) with e | hx
        · exact e.symm
        · have a := l1 y hy
          have b := m1 x hx
          rw [a] at b
          cases b
    subst e
    rw [sorted_uniq l2 m2 p.cons_inv]
def inlR (r : List Nat) : List (Int ⊕ List Nat) := r.map fun (n : Nat) => Sum.inl (n : Int)
theorem lx_lex : ∀ {u v : List Nat}, Sc.Lx u v → lexLt itemOrd (inlR u) (inlR v) = true
  | [], _, h => by simp [Sc.Lx] at h
  | _ :: _, [], h => by simp [Sc.Lx] at h
  | x :: u, y :: v, h => by
    show lexLt itemOrd (Sum.inl (x : Int) :: inlR u) (Sum.inl (y : Int) :: inlR v) = true
    rw [lex_cons]
    rcases h with h | ⟨e, h⟩
    · have a : itemOrd.blt (Sum.inl (x : Int)) (Sum.inl (y : Int)) = true := decide_eq_true (show (x : Int) < y by omega)
      rw [a]
      rfl
    · subst e
      have a : itemOrd.blt (Sum.inl (x : Int)) (Sum.inl (x : Int)) = false := itemOrd.irrefl _
      rw [a, lx_lex h]
      rfl
/-- the values of a row -/
def rowV (r : List Nat) : List V := r.map fun (n : Nat) => V.int (n : Int)
theorem rowV_items : ∀ {r : List Nat} {us : List Value} (i : Nat), Vals (rowV r) us → tupItems (fun _ => false) i us = some (inlR r)
  | [], _, i, .nil => rfl
  | n :: r, _, i, .cons h t => by
    obtain ⟨tk, rfl⟩ := h
    show (if (fun _ => false) i = true then none else (tupItems (fun _ => false) (i + 1) _).map (Sum.inl (n : Int) :: ·)) = _
    rw [if_neg Bool.false_ne_true, rowV_items (i + 1) t]
    rfl
def rSortR : List V → Hp → VK → Prop := fun vs H Q => ∃ (a : Addr) (ts : List Addr) (rs : List (List Nat)), vs = [V.ref a] ∧ H a = some (.lst (ts.map V.ref)) ∧ Paired (fun t r => H t = some (.tup (rowV r))) ts rs ∧ (2 ≤ ts.length → ∀ r ∈ rs, r ≠ []) ∧ rs.Pairwise Sc.Lx ∧
  ∀ p, H p = none → Q (.ref p) (upd H p (.lst (ts.map V.ref)))
theorem refs_vals : ∀ {ts : List Addr} {us : List Value}, Vals (ts.map V.ref) us → us = ts.map Value.ref
  | [], _, .nil => rfl
  | _ :: _, _, .cons h t => by
    cases h
    rw [refs_vals t]
    rfl
theorem vals_refs : ∀ ts : List Addr, Vals (ts.map V.ref) (ts.map Value.ref)
  | [] => .nil
  | _ :: ts => .cons rfl (vals_refs ts)
section
variable {X : Cx}
theorem row_raw {pins : List (Addr × Obj)} {σ : L2.St} {H : Hp} {s : Shared} (I : Inv X pins σ H s) {t : Addr} {r : List Nat} (h : H t = some (.tup (rowV r))) : PyProof.Rows.G.tupKeyC s.heap (fun _ => false) (.ref t) = some (inlR r) := by
  obtain ⟨_, its, rv, ⟨o, ho, hc, n, hd⟩⟩ := I.hok t _ h
  unfold PyProof.Rows.G.tupKeyC
  rw [if_pos (by simp [PyProof.Rows.G.isTupObj, ho, hc])]
  simp only [tupKey, ho, hd]
  exact rowV_items 0 rv
theorem row_first {pins : List (Addr × Obj)} {σ : L2.St} {H : Hp} {s : Shared} (I : Inv X pins σ H s) {t : Addr} {r : List Nat} (h : H t = some (.tup (rowV r))) (hr : r ≠ []) : ∃ f, TupOf s.heap (fun _ => false) (.ref t) f := by
  obtain ⟨_, its, rv, ⟨o, ho, hc, n, hd⟩⟩ := I.hok t _ h
  cases r with
  | nil => exact absurd rfl hr
  | cons m r =>
    cases rv with
    | cons h1 h2 =>
      obtain ⟨tk, rfl⟩ := h1
      exact ⟨_, t, o, _, n, rfl, ho, hc, hd, rfl, fun _ => ⟨_, _, rfl⟩, fun z => by cases z⟩
theorem rows_first {pins : List (Addr × Obj)} {σ : L2.St} {H : Hp} {s : Shared} (I : Inv X pins σ H s) : ∀ {ts : List Addr} {rs : List (List Nat)}, Paired (fun t r => H t = some (.tup (rowV r)) ∧ r ≠ []) ts rs → ∃ fs, TupsOf s.heap (fun _ => false) (ts.map Value.ref) fs
  | _, _, .nil => ⟨[], .nil⟩
  | _, _, .cons h t => by
    obtain ⟨f, hf⟩ := row_first I h.1 h.2
    obtain ⟨fs, hfs⟩ := rows_first I t
    exact ⟨f :: fs, .cons hf hfs⟩
theorem paired_ne {H : Hp} : ∀ {ts : List Addr} {rs : List (List Nat)}, Paired (fun t r => H t = some (.tup (rowV r))) ts rs → (∀ r ∈ rs, r ≠ []) → Paired (fun t r => H t = some (.tup (rowV r)) ∧ r ≠ []) ts rs
  | _, _, .nil, _ => .nil
  | _, _, .cons h t, g => .cons ⟨h, g _ List.mem_cons_self⟩ (paired_ne t fun r hr => g r (List.mem_cons_of_mem _ hr))
theorem rows_keys {pins : List (Addr × Obj)} {σ : L2.St} {H : Hp} {s : Shared} (I : Inv X pins σ H s) : ∀ {ts : List Addr} {rs : List (List Nat)}, Paired (fun t r => H t = some (.tup (rowV r))) ts rs → rs.Pairwise Sc.Lx →
    (ts.map Value.ref).Pairwise (fun x y => lexLt itemOrd ((PyProof.Rows.G.tupKeyC s.heap (fun _ => false) x).getD []) ((PyProof.Rows.G.tupKeyC s.heap (fun _ => false) y).getD []) = true) ∧ ∀ v ∈ ts.map Value.ref, ∃ r ∈ rs, PyProof.Rows.G.tupKeyC s.heap (fun _ => false) v = some (inlR r)
  | _, _, .nil, _ => ⟨List.Pairwise.nil, fun v h => by simp at h⟩
  | t :: ts, r :: rs, .cons h tl, hp => by
    obtain ⟨p1, p2⟩ := List.pairwise_cons.mp hp
    obtain ⟨a, b⟩ := rows_keys I tl p2
    have k := row_raw I h
    refine ⟨List.pairwise_cons.mpr ⟨fun v hv => ?_, a⟩, fun v hv => ?_⟩
    · obtain ⟨r', hr', e⟩ := b v hv
      rw [k, e]
      exact lx_lex (p1 r' hr')
    · rcases List.mem_cons.mp hv with rfl | hv
      · exact ⟨r, List.mem_cons_self, k⟩
      · obtain ⟨r', hr', e⟩ := b v hv
        exact ⟨r', List.mem_cons_of_mem _ hr', e⟩
theorem cr_sortR : CallR X (.builtin "sorted") rSortR := by
  intro pins s σ H vs us Q I r h
  obtain ⟨a, ts, rs, rfl, ha, hp, hne, hlx, q⟩ := h
  obtain ⟨its, rv, hl, hz⟩ := I.list (SqL.of ha)
  rw [Vals.ref1 r]
  obtain rfl := refs_vals rv
  obtain ⟨k1, k2⟩ := rows_keys I hp hlx
  rw [List.length_map] at hz
  refine PyProof.Rows.G.sortedG hl.isList (PyProof.Rows.G.tupKeys (shape := fun _ => false) (fun v hv => ?_)) (fun s₂ k => PyProof.Rows.G.tupC_ltAt (s := s₂) true k) (fun h2 _ _ s₂ _ k hq => ?_) (by rw [List.length_map]; exact hz) fun st' hperm hsort _ => ?_
  rotate_left
  · rw [List.length_map] at h2
    obtain ⟨fs, hfs⟩ := rows_first I (paired_ne hp (hne h2))
    exact tup_kind (s := s₂) (by rw [PyProof.Rows.G.TupsOf.length hfs, List.length_map]; omega) (PyProof.Rows.G.TupsOf.keep k hfs) hq
  rotate_left
  · obtain ⟨r', _, e⟩ := k2 v hv
    exact ⟨_, e⟩
  · have e : (arrOf st').toList = (pairsOf (ts.map Value.ref)).toList := by
      refine sorted_uniq (lt := fun p q => lexLt itemOrd ((PyProof.Rows.G.tupKeyC s.heap (fun _ => false) p.1).getD []) ((PyProof.Rows.G.tupKeyC s.heap (fun _ => false) q.1).getD [])) ?_ ?_ (Array.perm_iff_toList_perm.mp hperm)
      · rw [pairsOf_toList]
        have z : ∀ {l : List Value}, l.Pairwise (fun x y => lexLt itemOrd ((PyProof.Rows.G.tupKeyC s.heap (fun _ => false) x).getD []) ((PyProof.Rows.G.tupKeyC s.heap (fun _ => false) y).getD []) = true) →
            (l.zip l).Pairwise (fun p q => lexLt itemOrd ((PyProof.Rows.G.tupKeyC s.heap (fun _ => false) p.1).getD []) ((PyProof.Rows.G.tupKeyC s.heap (fun _ => false) q.1).getD []) = true) := fun {l} hl => by
          have e1 : (l.zip l).map Prod.fst = l := List.map_fst_zip (Nat.le_refl _)
          rw [← e1] at hl
          exact List.pairwise_map.mp hl
        exact z k1
      · rw [List.pairwise_iff_getElem]
        intro i j hi hj hij
        have hsz : (pairsOf (ts.map Value.ref)).size = (arrOf st').toList.length := by
          rw [← (Array.perm_iff_toList_perm.mp hperm).symm.length_eq, Array.length_toList]
        have q := hsort i j (Nat.le_of_lt hij) (by rw [hsz]; exact hj)
        have gi : (arrOf st')[i]? = some (arrOf st').toList[i] := by rw [← Array.getElem?_toList, List.getElem?_eq_getElem hi]
        have gj : (arrOf st')[j]? = some (arrOf st').toList[j] := by rw [← Array.getElem?_toList, List.getElem?_eq_getElem hj]
        unfold KK at q
        rw [gi, gj] at q
        exact q
    obtain ⟨n, hn⟩ := sortedAll_at s.heap (ts.map Value.ref) ((arrOf st').map (·.2))
    have hout : (arrOf st').map (·.2) = (ts.map Value.ref).toArray := by
      apply Array.ext'
      rw [Array.toList_map, e, pairsOf_toList, List.map_snd_zip (Nat.le_refl _)]
    rw [hout] at hn ⊢
    exact ⟨.ref _, upd H (s.heap.objs.size + 1) (.lst (ts.map V.ref)), I.laid (t' := s.toks) (fun b o q => sortedAll_old q) (Nat.le_succ _) ⟨by rw [List.length_map]; exact hz, _, n, vals_refs ts, hn⟩, rfl, q _ (I.hok.fresh (Nat.le_succ _))⟩
end
end Sr

/-! ScRulesE -/
/-! list(zip(xs, ys)) of two lists. -/
namespace Sr
open PySem PySem.Spec PyProof.Rows L2

theorem zip_no_len : typeLookup (.type "zip") "__len__" = pure none := am_miss_of_fast (by decide +kernel)
theorem zip_no_hint : typeLookup (.type "zip") "__length_hint__" = pure none := am_miss_of_fast (by decide +kernel)

/-- where the zip stands ahead of turn i; S the list that is filled -/
structure ZSt (z TI TO i1 i2 l1 l2 S : Addr) (xs ys : Array Value) (i : Nat) (h : Heap) : Prop where
  ti : IsPair h TI (.ref i1) (.ref i2)
  a1 : h.IsListIter i1 l1 i
  a2 : h.IsListIter i2 l2 i
  x1 : h.IsList l1 xs
  x2 : h.IsList l2 ys
  zz : (IsZip h z TI TO .none ∧ ∃ a b, IsPair h TO a b) ∨ ∃ T f oT, IsZipHeld h z TI TO T f ∧ h.get? T = some oT ∧ T ≠ z ∧ T ≠ i1 ∧ T ≠ i2 ∧ T ≠ S
/-- the list lies behind all that the zip has -/
structure Far (z TI TO i1 i2 l1 l2 S : Addr) : Prop where
  z : z < S
  ti : TI < S
  to : TO < S
  i1 : i1 < S
  i2 : i2 < S
  l1 : l1 < S
  l2 : l2 < S
section
variable {prog : Program} {w : World} {A : Around} {E : Value → Shared → Prop} {s : Shared} {z TI TO i1 i2 l1 l2 S : Addr} {xs ys : Array Value}
theorem ZSt.keep {i : Nat} {h h' : Heap} (F : Far z TI TO i1 i2 l1 l2 S) (t : ZSt z TI TO i1 i2 l1 l2 S xs ys i h) (k : ∀ b o, b ≠ S → h.get? b = some o → h'.get? b = some o) : ZSt z TI TO i1 i2 l1 l2 S xs ys i h' := by
  have n : ∀ {b : Addr}, b < S → b ≠ S := fun q => Nat.ne_of_lt q
  refine ⟨k _ _ (n F.ti) t.ti, t.a1.at fun o e => k _ o (n F.i1) e, t.a2.at fun o e => k _ o (n F.i2) e, t.x1.at fun o e => k _ o (n F.l1) e, t.x2.at fun o e => k _ o (n F.l2) e, ?_⟩
  rcases t.zz with ⟨hz, a, b, hTO⟩ | ⟨T, f, oT, hz, hT, r1, r2, r3, r4⟩
  · exact .inl ⟨k _ _ (n F.z) hz, a, b, k _ _ (n F.to) hTO⟩
  · exact .inr ⟨T, f, oT, k _ _ (n F.z) hz, k _ _ r4 hT, r1, r2, r3, r4⟩
theorem zst_item {i : Nat} {x y : Value} {Q : Option Value → Shared → Prop} (D : ZipApart z TI TO i1 i2 l1 l2) (t : ZSt z TI TO i1 i2 l1 l2 S xs ys i s.heap) (hS : S < s.heap.objs.size) (hx : xs[i]? = some x) (hy : ys[i]? = some y)
    (hQ : ∀ h', ZSt z TI TO i1 i2 l1 l2 S xs ys (i + 1) h' → IsPair h' s.heap.objs.size x y → h'.objs.size = s.heap.objs.size + 1 → (∀ c o, c ≠ z → c ≠ TO → c ≠ i1 → c ≠ i2 → s.heap.get? c = some o → h'.get? c = some o) →
      Q (some (.ref s.heap.objs.size)) { s with heap := h' }) : wpAny (model prog w) A (pyNext (.ref z)) Q E s := by
  have lt : ∀ {c o}, s.heap.get? c = some o → s.heap.objs.size ≠ c := fun e => Nat.ne_of_gt (Heap.lt_size e)
  have n1 : s.heap.objs.size ≠ i1 := let ⟨_, e, _⟩ := t.a1; lt e
  have n2 : s.heap.objs.size ≠ i2 := let ⟨_, e, _⟩ := t.a2; lt e
  rcases t.zz with ⟨hz, a, b, hTO⟩ | ⟨T, f, oT, hz, hT, r1, r2, r3, r4⟩
  · refine wpAny_pyNext_zip_item D hz t.ti hTO t.a1 t.a2 t.x1 t.x2 hx hy fun h' b1 b2 b3 b4 b5 b6 hk => ?_
    exact hQ h' ⟨hk _ _ D.TIz D.TITO D.TIi1 D.TIi2 t.ti, b3, b4, t.x1.at fun o e => hk _ o D.l1z D.l1TO D.l1i1 D.l1i2 e, t.x2.at fun o e => hk _ o D.l2z D.l2TO D.l2i1 D.l2i2 e,
      .inr ⟨_, false, _, b1, b5, lt hz, n1, n2, Nat.ne_of_gt hS⟩⟩ b5 b6 hk
  · refine wpAny_pyNext_zip_item_held D hz hT t.ti t.a1 t.a2 t.x1 t.x2 hx hy fun h' b1 b3 b4 b5 b6 hk => ?_
    exact hQ h' ⟨hk _ _ D.TIz D.TIi1 D.TIi2 t.ti, b3, b4, t.x1.at fun o e => hk _ o D.l1z D.l1i1 D.l1i2 e, t.x2.at fun o e => hk _ o D.l2z D.l2i1 D.l2i2 e,
      .inr ⟨T, true, oT, b1, hk _ _ r1 r2 r3 hT, r1, r2, r3, r4⟩⟩ b5 b6 fun c o c1 _ c2 c3 e => hk c o c1 c2 c3 e
theorem zst_done {i : Nat} {Q : Option Value → Shared → Prop} (hh : A.handled = none) (D : ZipApart z TI TO i1 i2 l1 l2) (t : ZSt z TI TO i1 i2 l1 l2 S xs ys i s.heap) (hend : xs[i]? = none ∨ ys[i]? = none)
    (hQ : ∀ h', (∀ c o, c ≠ z → c ≠ TO → c ≠ i1 → c ≠ i2 → s.heap.get? c = some o → h'.get? c = some o) → Q none { s with heap := h' }) : wpAny (model prog w) A (pyNext (.ref z)) Q E s := by
  rcases t.zz with ⟨hz, a, b, hTO⟩ | ⟨T, f, oT, hz, hT, _⟩
  · exact wpAny_pyNext_zip_end hh D hz t.ti hTO t.a1 t.a2 t.x1 t.x2 hend fun h' hk => hQ h' fun c o c1 c2 c3 c4 e => hk c o c1 c2 c3 c4 e
  · exact wpAny_pyNext_zip_end_held hh D hz hT t.ti t.a1 t.a2 t.x1 t.x2 hend fun h' hk => hQ h' fun c o c1 _ c3 c4 e => hk c o c1 c3 c4 e

/-- the pairs made so far -/
structure ZG (xs ys : Array Value) (S : Addr) (h : Heap) (as : List Addr) : Prop where
  rise : as.Pairwise (· < ·)
  above : ∀ a ∈ as, S < a
  pairs : ∀ (j : Nat) (a : Addr), as[j]? = some a → ∃ x y, xs[j]? = some x ∧ ys[j]? = some y ∧ IsPair h a x y
theorem zg_loop {R : Result → Shared → Prop} (hh : A.handled = none) (D : ZipApart z TI TO i1 i2 l1 l2) (F : Far z TI TO i1 i2 l1 l2 S) (hn : min xs.size ys.size ≤ sizeLine) (res : Value) {h₁ : Heap}
    (hR : ∀ h' tk acc c as, (∀ b o, b ≠ S → b ≠ z → b ≠ TO → b ≠ i1 → b ≠ i2 → h₁.get? b = some o → h'.get? b = some o) → h'.get? S = some { cls := .type "list", dict := none, data := .seq acc c, slots := #[] } → as.length = min xs.size ys.size → ZG xs ys S h' as →
      acc.toList = as.map Value.ref → R (.ok (.ret res)) { s with heap := h', toks := tk }) :
    ∀ (k i : Nat) (h : Heap) (tk c : Nat) (acc : Array Value) (as : List Addr), min xs.size ys.size - i = k → i ≤ min xs.size ys.size → ZSt z TI TO i1 i2 l1 l2 S xs ys i h →
      (∀ b o, b ≠ S → b ≠ z → b ≠ TO → b ≠ i1 → b ≠ i2 → h₁.get? b = some o → h.get? b = some o) → h.get? S = some { cls := .type "list", dict := none, data := .seq acc c, slots := #[] } → acc.toList = as.map Value.ref → as.length = i → ZG xs ys S h as →
      codeAny (model prog w) A (.builtin "list.extend.loop" ⟨[.ref S, .ref z, res], []⟩) R { s with heap := h, toks := tk } := by
  have sz : S ≠ z := Nat.ne_of_gt F.z
  have sto : S ≠ TO := Nat.ne_of_gt F.to
  have s1 : S ≠ i1 := Nat.ne_of_gt F.i1
  have s2 : S ≠ i2 := Nat.ne_of_gt F.i2
  have far : ∀ {a : Addr}, S < a → a ≠ S ∧ a ≠ z ∧ a ≠ TO ∧ a ≠ i1 ∧ a ≠ i2 := fun q =>
    ⟨Nat.ne_of_gt q, Nat.ne_of_gt (Nat.lt_trans F.z q), Nat.ne_of_gt (Nat.lt_trans F.to q), Nat.ne_of_gt (Nat.lt_trans F.i1 q), Nat.ne_of_gt (Nat.lt_trans F.i2 q)⟩
  intro k
  induction k with
  | zero =>
    intro i h tk c acc as hk hi t hkeep hS hacc hal hG
    have hin : i = min xs.size ys.size := by omega
    have hend : xs[i]? = none ∨ ys[i]? = none := by
      rcases Nat.le_total xs.size ys.size with q | q
      · exact .inl (Array.getElem?_eq_none (by rw [hin, Nat.min_eq_left q]; exact Nat.le_refl _))
      · exact .inr (Array.getElem?_eq_none (by rw [hin, Nat.min_eq_right q]; exact Nat.le_refl _))
    refine codeAny_builtin PySem.F.entry_extend_loop ?_
    rw [Around.under_plainId PySem.F.plain_extend_loop _]
    show wpAny _ A.in1 (pyNext (.ref z) >>= _) _ _ _
    refine wpAny_bind (zst_done (s := { s with heap := h, toks := tk }) (A := A.in1) hh D t hend fun h' hk' => ?_)
    refine wpAny_pure (hR h' tk acc c as (fun b o b1 b2 b3 b4 b5 e => hk' b o b2 b3 b4 b5 (hkeep b o b1 b2 b3 b4 b5 e)) (hk' S _ sz sto s1 s2 hS) (by omega) ⟨hG.rise, hG.above, fun j a hj => ?_⟩ hacc)
    obtain ⟨x, y, e1, e2, e3⟩ := hG.pairs j a hj
    obtain ⟨_, f2, f3, f4, f5⟩ := far (hG.above a (List.mem_of_getElem? hj))
    exact ⟨x, y, e1, e2, hk' a _ f2 f3 f4 f5 e3⟩
  | succ k ih =>
    intro i h tk c acc as hk hi t hkeep hS hacc hal hG
    have hlt : i < min xs.size ys.size := by omega
    have ex := Array.getElem?_eq_getElem (Nat.lt_of_lt_of_le hlt (Nat.min_le_left ..))
    have ey := Array.getElem?_eq_getElem (Nat.lt_of_lt_of_le hlt (Nat.min_le_right ..))
    have hsz : acc.size = i := by rw [← Array.length_toList, hacc, List.length_map, hal]
    have hSl : S < h.objs.size := Heap.lt_size hS
    refine codeAny_builtin PySem.F.entry_extend_loop ?_
    rw [Around.under_plainId PySem.F.plain_extend_loop _]
    show wpAny _ A.in1 (pyNext (.ref z) >>= _) _ _ _
    refine wpAny_bind (zst_item (s := { s with heap := h, toks := tk }) D t hSl ex ey fun h' t' ht hz' hkp => ?_)
    dsimp only at ht hz' hkp ⊢
    have hS' := hkp S _ sz sto s1 s2 hS
    have up : ∀ b o, b ≠ S → h'.get? b = some o → (h'.update S (Obj.mapSeq (·.push (Value.ref h.objs.size)))).get? b = some o := fun b o hb e => (Heap.get?_update_other _ _ (Ne.symm hb)).trans e
    show wpAny _ A.in1 (updateSeq S (·.push (Value.ref h.objs.size)) >>= _) _ _ _
    refine wpAny_bind ?_
    refine wpAny_updateSeq hS' rfl (wpAny_pure ⟨plainId_quiet PySem.F.plain_extend_loop _, ih (i + 1) _ tk _ (acc.push (Value.ref h.objs.size)) (as ++ [h.objs.size]) (by omega) hlt (t'.keep F up)
      (fun b o b1 b2 b3 b4 b5 e => up b o b1 (hkp b o b2 b3 b4 b5 (hkeep b o b1 b2 b3 b4 b5 e))) (Heap.get?_update_self _ hS' rfl) (by rw [Array.toList_push, hacc, List.map_append]; rfl) (by rw [List.length_append, hal]; rfl) ⟨?_, ?_, ?_⟩⟩)
      (by rw [hsz]; omega) (by show (acc.push (Value.ref h.objs.size)).size ≤ sizeLine + 1; rw [Array.size_push, hsz]; omega)
    · refine List.pairwise_append.mpr ⟨hG.rise, List.pairwise_singleton _ _, fun a ha b hb => ?_⟩
      rw [List.mem_singleton.mp hb]
      obtain ⟨j, hj⟩ := List.mem_iff_getElem?.mp ha
      obtain ⟨_, _, _, _, e⟩ := hG.pairs j a hj
      exact Heap.lt_size e
    · intro a ha
      rcases List.mem_append.mp ha with ha | ha
      · exact hG.above a ha
      · rw [List.mem_singleton.mp ha]
        exact hSl
    · intro j b hj
      rcases Nat.lt_trichotomy j as.length with q | q | q
      · rw [List.getElem?_append_left q] at hj
        obtain ⟨x, y, e1, e2, e3⟩ := hG.pairs j b hj
        obtain ⟨f1, f2, f3, f4, f5⟩ := far (hG.above b (List.mem_of_getElem? hj))
        exact ⟨x, y, e1, e2, up b _ f1 (hkp b _ f2 f3 f4 f5 e3)⟩
      · subst q
        have hb : h.objs.size = b := by simpa using hj
        subst hb
        exact ⟨_, _, by rw [hal]; exact ex, by rw [hal]; exact ey, up _ _ (Nat.ne_of_gt hSl) ht⟩
      · rw [List.getElem?_eq_none (by rw [List.length_append, List.length_singleton]; omega)] at hj
        cases hj
theorem zip_call {Q : Value → Shared → Prop} (hh : A.handled = none) (D : ZipApart z TI TO i1 i2 l1 l2) (F : Far z TI TO i1 i2 l1 l2 s.heap.objs.size) (hn : min xs.size ys.size ≤ sizeLine) (hz : IsZip s.heap z TI TO .none) (hti : IsPair s.heap TI (.ref i1) (.ref i2)) (hto : ∃ a b, IsPair s.heap TO a b)
    (ha : s.heap.IsListIter i1 l1 0) (hb : s.heap.IsListIter i2 l2 0) (hx : s.heap.IsList l1 xs) (hy : s.heap.IsList l2 ys)
    (hQ : ∀ h' tk acc c as, (∀ b o, b ≠ z → b ≠ TO → b ≠ i1 → b ≠ i2 → s.heap.get? b = some o → h'.get? b = some o) → h'.get? s.heap.objs.size = some { cls := .type "list", dict := none, data := .seq acc c, slots := #[] } → as.length = min xs.size ys.size →
      ZG xs ys s.heap.objs.size h' as → acc.toList = as.map Value.ref → Q (.ref s.heap.objs.size) { s with heap := h', toks := tk }) :
    wpAny (model prog w) A (call (.type "list") [.ref z]) Q E s := by
  refine callType_codes (Q₁ := fun obj s₁ => obj = .ref s.heap.objs.size ∧ s₁ = { s with heap := s.heap.push { cls := .type "list", data := .seq #[] } }) PySem.F.called_list (PySem.F.typeCall_list_1 _) PySem.F.entry_list_init
    (code_list_new _ ⟨rfl, rfl⟩) fun obj s₁ h₁ => ?_
  obtain ⟨rfl, rfl⟩ := h₁
  generalize hSe : s.heap.objs.size = S at *
  have hS0 : (s.heap.push { cls := .type "list", data := .seq #[] }).get? S = some { cls := .type "list", data := .seq #[] } := by
    rw [← hSe]
    exact Heap.get?_push_size _ rfl
  have t0 : ZSt z TI TO i1 i2 l1 l2 S xs ys 0 s.heap := ⟨hti, ha, hb, hx, hy, .inl ⟨hz, hto⟩⟩
  have k0 : ∀ b o, b ≠ S → s.heap.get? b = some o → (s.heap.push { cls := .type "list", data := .seq #[] }).get? b = some o := fun b o _ e => Heap.get?_push_of_some _ e
  refine ⟨⟨_, hS0, rfl⟩, PySem.F.args_list_init_2 _ _, ?_⟩
  show wpAny _ _ (do let old ← Builtin.List.listItems (.ref S); Builtin.List.listUpdate (.ref S) (fun _ => #[]); letGo old.toList.reverse; Builtin.List.listExtendWith (.ref S) (.ref z) .none) _ _ _
  refine wpAny_bind ?_
  unfold Builtin.List.listItems
  refine wpAny_bind (wpAny_seqItems hS0 rfl (wpAny_pure ?_))
  show wpAny _ _ (updateSeq S (fun _ => #[]) >>= fun _ => letGo (#[] : Array Value).toList.reverse >>= fun _ => Builtin.List.listExtendWith (.ref S) (.ref z) .none) _ _ _
  refine wpAny_bind (wpAny_updateSeq hS0 rfl ?_)
  have hS1 := Heap.get?_update_self (Obj.mapSeq (fun _ => (#[] : Array Value))) hS0 rfl
  have k1 : ∀ b o, b ≠ S → s.heap.get? b = some o → ((s.heap.push { cls := .type "list", data := .seq #[] }).update S (Obj.mapSeq (fun _ => (#[] : Array Value)))).get? b = some o :=
    fun b o hb e => (Heap.get?_update_other _ _ (Ne.symm hb)).trans (k0 b o hb e)
  refine wpAny_bind (wpAny_letGo ?_)
  have hsz : S ≠ z := Nat.ne_of_gt F.z
  have hT : Shared.TypeIs { s with heap := (s.heap.push { cls := .type "list", data := .seq #[] }).update S (Obj.mapSeq (fun _ => (#[] : Array Value))) } (.ref z) "zip" := ⟨_, k1 _ _ (Ne.symm hsz) hz, rfl⟩
  unfold Builtin.List.listExtendWith
  refine wpAny_bind (wpAny_typeOf hT ?_)
  have c1 : Builtin.List.listSameRef (.ref S) (.ref z) = false := by simp [Builtin.List.listSameRef, hsz]
  have c2 : (Value.type "zip" == Value.type "list") = false := by decide
  have c3 : (Value.type "zip" == Value.type "tuple") = false := by decide
  simp only [c1, c2, c3, Bool.or_false, Bool.false_eq_true, if_false]
  refine wpAny_bind (wpAny_pyIter_zip (k1 _ _ (Ne.symm hsz) hz) ?_)
  refine wpAny_bind (wpAny_holding ?_)
  unfold Builtin.List.listLengthHint
  refine wpAny_bind (wpAny_specialOf hT zip_no_len ?_)
  show wpAny _ _ (specialOf (Value.ref z) (Str.ofString "__length_hint__") >>= _) _ _ _
  refine wpAny_bind (wpAny_specialOf hT zip_no_hint ?_)
  refine wpAny_pure ?_
  show wpAny _ _ (rule "list.extend.makes-room" >>= fun _ => Builtin.List.listTouch (.ref S) >>= fun _ => again (.builtin "list.extend.loop" ⟨[.ref S, .ref z, .none], []⟩)) _ _ _
  refine wpAny_bind (wpAny_rule ?_)
  refine wpAny_bind ?_
  show wpAny _ _ (updateSeq S (·.push .none) >>= fun _ => updateSeq S (·.pop)) _ _ _
  refine wpAny_bind (wpAny_updateSeq hS1 rfl ?_)
  have hS2 := Heap.get?_update_self (Obj.mapSeq (·.push Value.none)) hS1 rfl
  refine wpAny_updateSeq (hz := by seq_fits) hS2 rfl ?_
  have hS3 := Heap.get?_update_self (Obj.mapSeq (·.pop)) hS2 rfl
  have k3 : ∀ b o, b ≠ S → s.heap.get? b = some o → ((((s.heap.push { cls := .type "list", data := .seq #[] }).update S (Obj.mapSeq (fun _ => (#[] : Array Value)))).update S (Obj.mapSeq (·.push Value.none))).update S (Obj.mapSeq (·.pop))).get? b = some o :=
    fun b o hb e => (Heap.get?_update_other _ _ (Ne.symm hb)).trans ((Heap.get?_update_other _ _ (Ne.symm hb)).trans (k1 b o hb e))
  refine wpAny_pure ⟨plainId_quiet PySem.F.plain_extend_loop _, zg_loop (s := s) (A := A.in1) hh D F hn .none (h₁ := s.heap) (fun h' tk acc c as hk hS' hl hG hacc => ?_) (min xs.size ys.size) 0 _ _ _ #[] [] (Nat.sub_zero _) (Nat.zero_le _) (t0.keep F k3) (fun b o b1 _ _ _ _ e => k3 b o b1 e) hS3 rfl rfl
    ⟨List.Pairwise.nil, (fun _ q => nomatch q), fun j a hj => by simp at hj⟩⟩
  exact ⟨rfl, hQ h' tk acc c as (fun b o b1 b2 b3 b4 e => hk b o (fun q => absurd (Heap.lt_size e) (by rw [q, ← hSe]; exact Nat.lt_irrefl _)) b1 b2 b3 b4 e) hS' hl hG hacc⟩
end

/-! ### as an expression -/
def putZ : Hp → List Addr → List HO → Hp
  | H, a :: as, o :: os => putZ (upd H a o) as os
  | H, _, _ => H
theorem putZ_off {b : Addr} : ∀ (as : List Addr) (os : List HO) (H : Hp), b ∉ as → putZ H as os b = H b
  | [], _, _, _ => rfl
  | _ :: _, [], _, _ => rfl
  | a :: as, o :: os, H, h => by
    show putZ (upd H a o) as os b = H b
    rw [putZ_off as os _ (fun z => h (List.mem_cons_of_mem _ z)), upd_ne (fun z => h (by rw [z]; exact List.mem_cons_self))]
theorem putZ_at : ∀ (as : List Addr) (os : List HO) (H : Hp), as.Nodup → ∀ (j : Nat) (a : Addr) (o : HO), as[j]? = some a → os[j]? = some o → putZ H as os a = some o
  | [], _, _, _, _, _, _, h, _ => by simp at h
  | _ :: _, [], _, _, _, _, _, _, h => by simp at h
  | a :: as, o :: os, H, hn, 0, b, u, h1, h2 => by
    have e1 : a = b := Option.some.inj h1
    have e2 : o = u := Option.some.inj h2
    subst e1 e2
    show putZ (upd H a o) as os a = some o
    rw [putZ_off as os _ (List.nodup_cons.mp hn).1, upd_same]
  | a :: as, o :: os, H, hn, j + 1, b, u, h1, h2 => putZ_at as os (upd H a o) (List.nodup_cons.mp hn).2 j b u (by simpa using h1) (by simpa using h2)
theorem refs_valsE : ∀ ts : List Addr, Vals (ts.map V.ref) (ts.map Value.ref)
  | [] => .nil
  | _ :: ts => .cons rfl (refs_valsE ts)
/-- a new list at p of new pairs -/
def rPairs (xs ys : List V) (H : Hp) (Q : VK) : Prop := ∀ (H' : Hp) (p : Addr) (ts : List Addr), (∀ b o, H b = some o → H' b = some o) → H p = none → H' p = some (.lst (ts.map V.ref)) → ts.length = min xs.length ys.length →
  (∀ (j : Nat) (t : Addr), ts[j]? = some t → ∃ x y, xs[j]? = some x ∧ ys[j]? = some y ∧ H' t = some (.tup [x, y])) → Q (.ref p) H'
def tListZip (K : PySem.W.Frag) (ta : TA) : TE := fun σ H Q => ta σ H fun vs H1 => ∃ (a b : Addr) (xs ys : List V), vs = [.ref a, .ref b] ∧ SqL K H1 a xs ∧ SqL K H1 b ys ∧ rPairs xs ys H1 Q
section
variable {X : Cx} {e e2 : Expr} {ta : TA} {p zp zpos pos : Pos}
theorem pe_listZip (hc : X.calm = true) (ha : PA X [e, e2] ta) (hg : Gl X "list") (hm : X.mg "list" = none) (hgz : Gl X "zip") (hmz : X.mg "zip" = none)
    (hs : starEach [.Call (.Name "zip" zp) [e, e2] [] zpos] X.env = (false, eval (.Call (.Name "zip" zp) [e, e2] [] zpos) X.env) :: starEach [] X.env := by rfl)
    (hs2 : starEach [e, e2] X.env = (false, eval e X.env) :: starEach [e2] X.env := by rfl) (hpl : (backTo zpos (starEach [e2] X.env)).any (·.1) = false := by rfl) :
    PE X (.Call (.Name "list" p) [.Call (.Name "zip" zp) [e, e2] [] zpos] [] pos) (tListZip X.K ta) := by
  refine ⟨fun pins s σ H Q I hq => ?_⟩
  refine wpAny_Call_Name_kw (ld_blt I hg hm PyProof.Rows.boot_list ?_)
  refine PyProof.Rows.callWith_type1 ?_ hs rfl
  rw [hs]
  show wpAny _ _ (spliced ((false, eval (.Call (.Name "zip" zp) [e, e2] [] zpos) X.env) :: backTo pos (starEach [] X.env))) _ _ s
  refine Calls.spliced_cons ?_
  refine Call_ (ld_blt I hgz hmz PyProof.Rows.boot_zip (PyProof.Rows.callWith_type1 (thn (ha.run zpos pins s σ H _ I hq) fun us s1 ⟨vs, H1, I1, r1, q1⟩ => ?_) hs2 hpl))
  obtain ⟨a, b, xs, ys, ex, hqx, hqy, q⟩ := q1
  subst ex
  obtain ⟨u1, u2, rfl, r1', r2'⟩ : ∃ u1 u2, us = [u1, u2] ∧ RelV (V.ref a) u1 ∧ RelV (V.ref b) u2 := by
    cases r1 with
    | cons p q => cases q with
      | cons p' q' => cases q'; exact ⟨_, _, rfl, p, p'⟩
  cases r1'
  cases r2'
  obtain ⟨its, rv, p1, z1⟩ := I1.list hqx
  obtain ⟨its2, rv2, p2, z2⟩ := I1.list hqy
  have la := p1.lt
  have lb := p2.lt
  refine call_zip_2 p1.isList p2.isList fun h' hz hTI hTO h1 h2 hsz hk => ?_
  have I2 : Inv X pins σ H1 { s1 with heap := h' } := I1.kept (t' := s1.toks) hk
  refine Calls.spliced_nil ?_
  have F : Far (s1.heap.objs.size + 4) (s1.heap.objs.size + 2) (s1.heap.objs.size + 3) s1.heap.objs.size (s1.heap.objs.size + 1) a b h'.objs.size := by
    rw [hsz]
    exact ⟨Nat.lt_succ_self _, Nat.add_lt_add_left (by decide) _, Nat.add_lt_add_left (by decide) _, Nat.lt_add_of_pos_right (by decide), Nat.add_lt_add_left (by decide) _, Nat.lt_of_lt_of_le la (Nat.le_add_right _ _), Nat.lt_of_lt_of_le lb (Nat.le_add_right _ _)⟩
  have nN : ∀ {c : Addr} {o : Obj}, s1.heap.get? c = some o → c ≠ s1.heap.objs.size + 4 ∧ c ≠ s1.heap.objs.size + 3 ∧ c ≠ s1.heap.objs.size ∧ c ≠ s1.heap.objs.size + 1 := fun e => by
    have l := Heap.lt_size e
    exact ⟨Nat.ne_of_lt (Nat.lt_of_lt_of_le l (Nat.le_add_right _ _)), Nat.ne_of_lt (Nat.lt_of_lt_of_le l (Nat.le_add_right _ _)), Nat.ne_of_lt l, Nat.ne_of_lt (Nat.lt_of_lt_of_le l (Nat.le_add_right _ _))⟩
  have lz1 : its.toArray.size = xs.length := by rw [List.size_toArray, rv.length]
  have lz2 : its2.toArray.size = ys.length := by rw [List.size_toArray, rv2.length]
  refine zip_call (s := { s1 with heap := h' }) (xs := its.toArray) (ys := its2.toArray) (I.ok.hd hc) (PySem.W.ktu_apart s1.heap.objs.size a b la lb) F (by rw [lz1]; exact Nat.le_trans (Nat.min_le_left _ _) z1) hz hTI ⟨_, _, hTO⟩ h1 h2
    (p1.isList.at fun o e => hk _ o e) (p2.isList.at fun o e => hk _ o e) fun h'' tk acc c as hk2 hS hl hG hacc => ?_
  have hS : h''.get? h'.objs.size = some { cls := .type "list", dict := none, data := .seq acc c, slots := #[] } := hS
  have hG : ZG its.toArray its2.toArray h'.objs.size h'' as := hG
  rw [lz1, lz2] at hl
  have hSn : h'.objs.size ∉ as := fun z => Nat.lt_irrefl _ (hG.above _ z)
  have nd : as.Nodup := List.Pairwise.imp (fun {a b} (h : a < b) => Nat.ne_of_lt h) hG.rise
  have lS : s1.heap.objs.size ≤ h'.objs.size := by rw [hsz]; exact Nat.le_add_right _ _
  have newS : H1 h'.objs.size = none := I1.hok.fresh lS
  have new : ∀ t ∈ as, H1 t = none := fun t ht => I1.hok.fresh (Nat.le_trans lS (Nat.le_of_lt (hG.above t ht)))
  let os : List HO := (xs.zip ys).map fun q => HO.tup [q.1, q.2]
  have hos : ∀ (j : Nat) (x y : V), xs[j]? = some x → ys[j]? = some y → os[j]? = some (.tup [x, y]) := fun j x y e1 e2 => by
    show ((xs.zip ys).map fun q => HO.tup [q.1, q.2])[j]? = _
    rw [List.getElem?_map, (List.getElem?_zip_eq_some (z := (x, y))).mpr ⟨e1, e2⟩]
    rfl
  have pr : ∀ (j : Nat) (t : Addr), as[j]? = some t → ∃ x y u v, xs[j]? = some x ∧ ys[j]? = some y ∧ RelV x u ∧ RelV y v ∧ IsPair h'' t u v := fun j t ht => by
    obtain ⟨u, v, e1, e2, e3⟩ := hG.pairs j t ht
    obtain ⟨x, f1, g1⟩ := getV rv e1
    obtain ⟨y, f2, g2⟩ := getV rv2 e2
    exact ⟨x, y, u, v, f1, f2, g1, g2, e3⟩
  have off : ∀ b, b ∉ as → b ≠ h'.objs.size → putZ (upd H1 h'.objs.size (.lst (as.map V.ref))) as os b = H1 b := fun b h1 h2 => by rw [putZ_off as os _ h1, upd_ne h2]
  have kp : ∀ b u, H1 b = some u → putZ (upd H1 h'.objs.size (.lst (as.map V.ref))) as os b = some u := fun b u e => by
    rw [off b (fun z => by rw [new b z] at e; cases e) (fun z => by rw [z, newS] at e; cases e)]
    exact e
  have eS : putZ (upd H1 h'.objs.size (.lst (as.map V.ref))) as os h'.objs.size = some (.lst (as.map V.ref)) := by rw [putZ_off as os _ hSn, upd_same]
  have low : ∀ b o, s1.heap.get? b = some o → b ∉ as ∧ b ≠ h'.objs.size := fun b o e =>
    ⟨fun z => absurd (Nat.lt_of_lt_of_le (Heap.lt_size e) lS) (Nat.not_lt.mpr (Nat.le_of_lt (hG.above b z))), Nat.ne_of_lt (Nat.lt_of_lt_of_le (Heap.lt_size e) lS)⟩
  have kall : ∀ b o, s1.heap.get? b = some o → h''.get? b = some o := fun b o e => by
    obtain ⟨n1, n2, n3, n4⟩ := nN e
    exact hk2 b o n1 n2 n3 n4 (hk b o e)
  have J : Inv X pins σ (putZ (upd H1 h'.objs.size (.lst (as.map V.ref))) as os) { s1 with heap := h'', toks := tk } := by
    refine I1.call' (ch := []) rfl ⟨fun b o q _ _ _ => kall b o q, fun b o q _ _ _ => ⟨o.slots, kall b o q⟩, fun b o q n _ => ?_, fun b o q _ => ⟨o, kall b o q⟩, fun b xs q => kp b _ q, fun b o u q => kp b _ q, fun b ps q => ⟨#[], by rw [kp b _ q]; simp⟩⟩ (fun b u q => ?_) I1.bare fun b z => by simp at z
    · obtain ⟨y1, y2⟩ := low b o q
      rw [off b y1 y2]
      exact n
    · by_cases hb : b ∈ as
      · obtain ⟨j, hj⟩ := List.mem_iff_getElem?.mp hb
        obtain ⟨x, y, u', v', f1, f2, g1, g2, e3⟩ := pr j b hj
        rw [putZ_at as os _ nd j b _ hj (hos j x y f1 f2)] at q
        cases q
        exact ⟨by show 2 ≤ sizeLine; decide, [u', v'], .cons g1 (.cons g2 .nil), ⟨_, e3, rfl, _, rfl⟩⟩
      · by_cases hb2 : b = h'.objs.size
        · rw [hb2] at q ⊢
          rw [eS] at q
          cases q
          refine ⟨by rw [List.length_map, hl]; exact Nat.le_trans (Nat.min_le_left _ _) z1, acc.toList, c, by rw [hacc]; exact refs_valsE as, ?_⟩
          rw [Array.toArray_toList]
          exact hS
        · rw [off b hb hb2] at q
          exact (I1.hok b u q).stay (fun d v _ y => kall d v y) (fun d y => kp d _ y) fun d xs y => kp d _ y
  refine ⟨.ref h'.objs.size, _, J, rfl, q _ _ as kp newS eS hl fun j t ht => ?_⟩
  obtain ⟨x, y, _, _, f1, f2, _⟩ := pr j t ht
  exact ⟨x, y, f1, f2, putZ_at as os _ nd j t _ ht (hos j x y f1 f2)⟩
end
end Sr

/-! ScBase -/
/-! The text by places, promises, lists of tuples and counts in the heap. -/
namespace Sd
open PySem PySem.Spec PyProof.Rows L2 Sr
/-! ### the text -/
def topS (i : Nat) : Stmt := PySem.Challenge.pw_saidcounts_k10_whole_rules_between.main.body.getD i (.Pass ⟨0, 0, 0, 0⟩)
/-- a def of the text, under its name -/
structure Df (K : PySem.W.Frag) (mg : Str → Option Value) (x : Str) (i : Nat) (ps : List Str) : Prop where
  ex : ∃ (f : Addr) (fd : FuncData), FunD K x x (defArgs (topS i)) (defBody (topS i)) (defScope (topS i)) [] [] f fd ∧ mg x = some (.ref f) ∧ Binds K fd ps []
/-- a def that keeps a promise, by its name -/
structure Ok (P : Program) (w : World) (K : PySem.W.Frag) (mg : Str → Option Value) (base : Heap) (k : Nat) (x : Str) (sp : Sp) : Prop where
  ex : ∃ (f : Addr) (fd : FuncData) (ps : List Str), FnOk P w K mg base CX0 k f fd ps sp ∧ mg x = some (.ref f) ∧ PySem.W.keepIn K (.ref f) = true ∧ Binds K fd ps []
section
variable {P : Program} {w : World} {K : PySem.W.Frag} {mg : Str → Option Value} {base : Heap}
theorem mkOk {x : Str} {i k : Nat} {N ps : List Str} {sp : Sp} (D : Df K mg x i ps) (S : FnScope N ps (defScope (topS i))) (len : ∀ vs H Q E, sp vs H Q E → vs.length = ps.length)
    (hbody : ∀ (f : Addr) (cdv : Value) (A : Around) (outer : List Env) (s : Shared) (H : Hp) (vs : List V) (Q : VK) (E : XK), Room k (A.deeper (envOfC x (defScope (topS i)) s.heap.objs.size f cdv)) → sp vs H Q E →
      ∃ t, PSs (cxOf CX0 P w K mg base N x (defScope (topS i)) f cdv A outer s H E).nox (defBody (topS i)) t ∧ t { nx := fun _ H' => Q .non H', rt := Q } (start N vs) H) : Ok P w K mg base (k + 1) x sp := by
  obtain ⟨f, fd, F, hm, b⟩ := D.ex
  refine ⟨f, fd, ps, F.ok S len fun cdv A outer s H vs Q E hr hsp => ?_, hm, F.kp, b⟩
  obtain ⟨t, h, q⟩ := hbody f cdv A outer s H vs Q E hr hsp
  exact ⟨t, h.nox, q⟩
theorem Ok.mono {j k : Nat} {x : Str} {sp : Sp} (c : Ok P w K mg base j x sp) (h : j ≤ k) : Ok P w K mg base k x sp := by
  obtain ⟨f, fd, ps, F, r⟩ := c.ex
  exact ⟨f, fd, ps, F.mono h, r⟩
theorem Ok.imp {k : Nat} {x : Str} {sp sp' : Sp} (c : Ok P w K mg base k x sp) (h : ∀ vs H Q E, sp' vs H Q E → sp vs H Q E) : Ok P w K mg base k x sp' := by
  obtain ⟨f, fd, ps, F, r⟩ := c.ex
  exact ⟨f, fd, ps, F.imp h, r⟩
end
section
variable {X : Cx} {k j : Nat} {x : Str} {sp : Sp} {p pos : Pos} {e : Expr} {es : List Expr} {t : TA}
theorem pe_k (c : Ok X.prog X.w X.K X.mg X.base k x sp) (hr : Room j X.A) (hk : k ≤ j) (hg : Gl X x) (ha : PA X (e :: es) t)
    (hdb : (x == ("__debug__" : Str)) = false := by decide) (he : starEach (e :: es) X.env = (false, eval e X.env) :: starEach es X.env := by rfl) (hpl : (backTo pos (starEach es X.env)).any (·.1) = false := by rfl) :
    PE X (.Call (.Name x p) (e :: es) [] pos) (tCall sp [] E0 t) := by
  obtain ⟨f, fd, ps, F, hm, kp, b⟩ := c.ex
  exact pe_call F (hr.mono hk) hg hm kp b .nil pass0 ha hdb he hpl
end
/-- what the module's names stand for, beside the defs -/
structure Bs (mg : Str → Option Value) : Prop where
  isinstance : mg "isinstance" = none
  int : mg "int" = none
  bool : mg "bool" = none
  str : mg "str" = none
  len : mg "len" = none
  enumerate : mg "enumerate" = none
  sorted : mg "sorted" = none
  set : mg "set" = none
  all : mg "all" = none
  zip : mg "zip" = none
  range : mg "range" = none
  tuple : mg "tuple" = none
  list : mg "list" = none
  sum : mg "sum" = none
  max : mg "max" = none
  letters : ∃ t, mg "LETTERS" = some (.str "abcd" t)
  most : ∃ t, mg "MOST_WORD" = some (.int 2000 t)

/-! ### texts as lists of signs -/
def S (l : List Nat) : Str := ⟨l.toArray⟩
theorem S_len (l : List Nat) : (S l).length = l.length := List.size_toArray
theorem S_size (l : List Nat) : (S l).cps.size = l.length := List.size_toArray
theorem S_list (l : List Nat) : (S l).cps.toList = l := rfl
theorem S_get (l : List Nat) (i : Nat) : (S l).cps[i]? = l[i]? := by
  show l.toArray[i]? = l[i]?
  simp
theorem S_inj {l m : List Nat} (h : S l = S m) : l = m := by
  have e := congrArg (fun z : Str => z.cps.toList) h
  exact e
theorem S_app (l m : List Nat) : S l ++ S m = S (l ++ m) := by
  show (⟨(S l).cps ++ (S m).cps⟩ : Str) = _
  unfold S
  congr 1
  apply Array.ext'
  simp
theorem S_abcd : ("abcd" : Str) = S [97, 98, 99, 100] := by decide +kernel
theorem S_a : ("a" : Str) = S [97] := by decide +kernel
theorem S_nil : ("" : Str) = S [] := by decide +kernel
/-- a word: letters a to d -/
def Wd (w : List Nat) : Prop := ∀ x ∈ w, 97 ≤ x ∧ x ≤ 100
theorem Wd.mem {w : List Nat} (h : Wd w) {c : Nat} (hc : c ∈ w) : c ∈ [97, 98, 99, 100] := by
  have := h c hc
  simp only [List.mem_cons, List.not_mem_nil, or_false]
  omega

/-! ### heaps -/
theorem same_upd {H : Hp} {p : Addr} {o : HO} (h : H p = none) : Same H (upd H p o) := fun b x e => by
  rw [upd_ne (ne_of_none e h)]
  exact e
/-- a change at an address that was not tracked at first -/
theorem same_at {H0 H : Hp} {p : Addr} {o : HO} (s : Same H0 H) (h : H0 p = none) : Same H0 (upd H p o) := fun b x e => by
  rw [upd_ne (ne_of_none e h)]
  exact s b x e

/-! ### lists of tuples -/
abbrev PT0 {α : Type} (f : α → List V) (H : Hp) (ts : List Addr) (xs : List α) : Prop := Paired (fun t x => H t = some (.tup (f x))) ts xs
theorem pt_len {α : Type} {f : α → List V} {H : Hp} : ∀ {ts : List Addr} {xs : List α}, PT0 f H ts xs → ts.length = xs.length
  | _, _, .nil => rfl
  | _, _, .cons _ t => by rw [List.length_cons, List.length_cons, pt_len t]
theorem pt_get {α : Type} {f : α → List V} {H : Hp} : ∀ {ts : List Addr} {xs : List α} {i : Nat} {x : α}, PT0 f H ts xs → xs[i]? = some x → ∃ t, ts[i]? = some t ∧ H t = some (.tup (f x))
  | _, _, _, _, .nil, h => by simp at h
  | _, _, 0, _, .cons r _, h => by
    have e := Option.some.inj h
    subst e
    exact ⟨_, rfl, r⟩
  | _, _, i + 1, _, .cons _ t, h => pt_get (i := i) t (by simpa using h)
theorem pt_same {α : Type} {f : α → List V} {H H' : Hp} (s : Same H H') : ∀ {ts : List Addr} {xs : List α}, PT0 f H ts xs → PT0 f H' ts xs
  | _, _, .nil => .nil
  | _, _, .cons r t => .cons (s _ _ r) (pt_same s t)
/-- a write at what is no tuple -/
theorem pt_upd {α : Type} {f : α → List V} {H : Hp} {a : Addr} {o : HO} (h : ∀ xs, H a ≠ some (.tup xs)) : ∀ {ts : List Addr} {xs : List α}, PT0 f H ts xs → PT0 f (upd H a o) ts xs
  | _, _, .nil => .nil
  | _, _, .cons r t => .cons (by
      rw [upd_ne (fun e => h _ (by rw [← e]; exact r))]
      exact r) (pt_upd h t)
theorem pt_app {α : Type} {f : α → List V} {H : Hp} : ∀ {ts us : List Addr} {xs ys : List α}, PT0 f H ts xs → PT0 f H us ys → PT0 f H (ts ++ us) (xs ++ ys)
  | _, _, _, _, .nil, s => s
  | _, _, _, _, .cons r t, s => .cons r (pt_app t s)
theorem pt_take {α : Type} {f : α → List V} {H : Hp} : ∀ {ts : List Addr} {xs : List α} (n : Nat), PT0 f H ts xs → PT0 f H (ts.take n) (xs.take n)
  | _, _, 0, _ => .nil
  | _, _, _ + 1, .nil => .nil
  | _, _, n + 1, .cons r t => .cons r (pt_take n t)
/-- a list of tuples at p -/
def TupL {α : Type} (f : α → List V) (H : Hp) (p : Addr) (xs : List α) : Prop := ∃ ts : List Addr, H p = some (.lst (ts.map V.ref)) ∧ PT0 f H ts xs
theorem TupL.same {α : Type} {f : α → List V} {H H' : Hp} {p : Addr} {xs : List α} (s : Same H H') (h : TupL f H p xs) : TupL f H' p xs := by
  obtain ⟨ts, h1, h2⟩ := h
  exact ⟨ts, s _ _ h1, pt_same s h2⟩
theorem TupL.nil {α : Type} {f : α → List V} {H : Hp} {p : Addr} : TupL f (upd H p (.lst [])) p ([] : List α) := ⟨[], upd_same, .nil⟩
theorem lst_notup {H : Hp} {a : Addr} {vs : List V} (h : H a = some (.lst vs)) : ∀ xs, H a ≠ some (.tup xs) := fun xs e => by
  rw [h] at e
  cases e
/-- append -/
theorem TupL.push {α : Type} {f : α → List V} {H : Hp} {p t : Addr} {xs : List α} {x : α} (h : TupL f H p xs) (ht : H t = some (.tup (f x))) : ∃ vs, H p = some (.lst vs) ∧ vs.length = xs.length ∧ TupL f (upd H p (.lst (vs ++ [.ref t]))) p (xs ++ [x]) := by
  obtain ⟨ts, h1, h2⟩ := h
  refine ⟨_, h1, by rw [List.length_map]; exact pt_len h2, ts ++ [t], ?_, ?_⟩
  · rw [upd_same, List.map_append]
    rfl
  · exact pt_upd (lst_notup h1) (pt_app h2 (.cons ht .nil))
theorem map_setLast : ∀ (ts : List Addr) (t u : Addr), ((ts ++ [u]).map V.ref).set ts.length (.ref t) = (ts ++ [t]).map V.ref
  | [], _, _ => rfl
  | a :: ts, t, u => by
    show V.ref a :: ((ts ++ [u]).map V.ref).set ts.length (.ref t) = V.ref a :: (ts ++ [t]).map V.ref
    rw [map_setLast ts t u]
/-- the last one replaced -/
theorem TupL.setLast {α : Type} {f : α → List V} {H : Hp} {p t : Addr} {xs : List α} {x y : α} (h : TupL f H p (xs ++ [y])) (ht : H t = some (.tup (f x))) :
    ∃ vs, H p = some (.lst vs) ∧ vs.length = xs.length + 1 ∧ TupL f (upd H p (.lst (vs.set xs.length (.ref t)))) p (xs ++ [x]) := by
  obtain ⟨ts, h1, h2⟩ := h
  have hl := pt_len h2
  rw [List.length_append, List.length_singleton] at hl
  obtain ⟨us, u, rfl⟩ : ∃ us u, ts = us ++ [u] := by
    rcases List.eq_nil_or_concat ts with e | ⟨us, u, e⟩
    · rw [e] at hl
      simp at hl
    · exact ⟨us, u, by rw [e, List.concat_eq_append]⟩
  have hul : us.length = xs.length := by
    rw [List.length_append, List.length_singleton] at hl
    omega
  refine ⟨_, h1, by rw [List.length_map, List.length_append, hul]; rfl, us ++ [t], ?_, ?_⟩
  · rw [upd_same, ← hul, map_setLast]
  · have h3 : PT0 f H us xs := by
      have q := pt_take xs.length h2
      rw [List.take_left' rfl, ← hul, List.take_left' rfl] at q
      exact q
    exact pt_upd (lst_notup h1) (pt_app h3 (.cons ht .nil))
theorem TupL.seq {α : Type} {f : α → List V} {K : PySem.W.Frag} {H : Hp} {p : Addr} {xs : List α} (h : TupL f H p xs) : ∃ vs, H p = some (.lst vs) ∧ vs.length = xs.length ∧ SqL K H p vs ∧ ∀ (i : Nat) (x : α), xs[i]? = some x → ∃ t, vs[i]? = some (V.ref t) ∧ H t = some (.tup (f x)) := by
  obtain ⟨ts, h1, h2⟩ := h
  refine ⟨_, h1, by rw [List.length_map]; exact pt_len h2, SqL.of h1, fun i x hx => ?_⟩
  obtain ⟨t, e1, e2⟩ := pt_get h2 hx
  exact ⟨t, by rw [List.getElem?_map, e1] <;> rfl, e2⟩
/-- a run: its letter and the count behind it -/
def runV (e : Nat × Nat) : List V := [.str (S [e.1]), .int (e.2 : Int)]

/-! ### counts in a dict -/
def ck (x : Nat) : Key := Sum.inr (S [x])
theorem ck_inj {x y : Nat} (h : ck x = ck y) : x = y := by
  have e := S_inj (Sum.inr.inj h)
  simpa using e
/-- the dict at d counts as k does; it has at most n entries -/
def Cnt (H : Hp) (d : Addr) (k : Nat → Nat) (n : Nat) : Prop := ∃ kvs : List (Key × V), H d = some (.dK kvs) ∧ kvs.length ≤ n ∧ ∀ x, (valV kvs (ck x)).getD (.int 0) = .int (k x : Nat)
theorem Cnt.nil {H : Hp} {d : Addr} : Cnt (upd H d (.dK [])) d Sc.k0 0 := ⟨[], upd_same, Nat.le_refl _, fun _ => rfl⟩
theorem Cnt.of {H H' : Hp} {d : Addr} {k : Nat → Nat} {n : Nat} (h : Cnt H d k n) (e : ∀ o, H d = some o → H' d = some o) : Cnt H' d k n := by
  obtain ⟨kvs, h1, h2, h3⟩ := h
  exact ⟨kvs, e _ h1, h2, h3⟩
theorem Cnt.put {H : Hp} {d : Addr} {k : Nat → Nat} {n : Nat} (h : Cnt H d k n) (x c : Nat) (hn : n < 1000000) :
    ∃ H', DPut H d (.str (S [x])) (.int (c : Nat)) H' ∧ Cnt H' d (Sc.put k x c) (n + 1) ∧ DGet H' d (.str (S [x])) (some (.int (c : Nat))) ∧ ∃ kvs, H d = some (.dK kvs) ∧ H' = upd H d (.dK (putK kvs (ck x) (.int (c : Nat)))) := by
  obtain ⟨kvs, h1, h2, h3⟩ := h
  have hz : kvs.length < sizeLine := by
    rw [sizeLine_eq]
    omega
  have hv : valV (putK kvs (ck x) (.int (c : Nat))) (ck x) = some (.int (c : Nat)) := by rw [valV_put, if_pos rfl]
  refine ⟨_, DPut.k (k := ck x) h1 hz, ⟨_, upd_same, ?_, fun y => ?_⟩, ?_, kvs, h1, rfl⟩
  · have := length_putK kvs (ck x) (.int (c : Nat))
    omega
  · rw [valV_put]
    unfold Sc.put
    by_cases e : y = x
    · rw [if_pos e, if_pos (by rw [e])]
      rfl
    · rw [if_neg e, if_neg (fun z => e (ck_inj z))]
      exact h3 y
  · have q := DGet.k (H := upd H d (.dK (putK kvs (ck x) (.int (c : Nat))))) (k := ck x) upd_same
    rw [hv] at q
    exact q
theorem Cnt.get {H : Hp} {d : Addr} {k : Nat → Nat} {n : Nat} (h : Cnt H d k n) (x : Nat) : ∃ o, DGet H d (.str (S [x])) o ∧ o.getD (.int 0) = .int (k x : Nat) := by
  obtain ⟨kvs, h1, _, h3⟩ := h
  exact ⟨_, DGet.k (k := ck x) h1, h3 x⟩
theorem Cnt.isD {H : Hp} {d : Addr} {k : Nat → Nat} {n : Nat} (h : Cnt H d k n) : IsD H d := by
  obtain ⟨kvs, h1, _⟩ := h
  exact .inl ⟨kvs, .inl h1⟩
end Sd

/-! ScHead -/
namespace Sd
open PySem PySem.Spec PyProof.Rows L2 Sr
/-! ### the head: facts by names, the run -/
def d7 : He.DefD := ⟨("is_int", none), "is_int", "is_int", defArgs (topS 7), defBody (topS 7), defScope (topS 7), [], []⟩
def d8 : He.DefD := ⟨("need_word", none), "need_word", "need_word", defArgs (topS 8), defBody (topS 8), defScope (topS 8), [], []⟩
def d10 : He.DefD := ⟨("runs_of", none), "runs_of", "runs_of", defArgs (topS 10), defBody (topS 10), defScope (topS 10), [], []⟩
def d11 : He.DefD := ⟨("marks_of", none), "marks_of", "marks_of", defArgs (topS 11), defBody (topS 11), defScope (topS 11), [], []⟩
def d12 : He.DefD := ⟨("word_of", none), "word_of", "word_of", defArgs (topS 12), defBody (topS 12), defScope (topS 12), [], []⟩
def d13 : He.DefD := ⟨("core_of", none), "core_of", "core_of", defArgs (topS 13), defBody (topS 13), defScope (topS 13), [], []⟩
def d14 : He.DefD := ⟨("gaps_of", none), "gaps_of", "gaps_of", defArgs (topS 14), defBody (topS 14), defScope (topS 14), [], []⟩
def d16 : He.DefD := ⟨("need_two", none), "need_two", "need_two", defArgs (topS 16), defBody (topS 16), defScope (topS 16), [], []⟩
def d17 : He.DefD := ⟨("grows_to", none), "grows_to", "grows_to", defArgs (topS 17), defBody (topS 17), defScope (topS 17), [], []⟩
def d18 : He.DefD := ⟨("product_of", none), "product_of", "product_of", defArgs (topS 18), defBody (topS 18), defScope (topS 18), [], []⟩
def d20 : He.DefD := ⟨("choose", none), "choose", "choose", defArgs (topS 20), defBody (topS 20), defScope (topS 20), [], []⟩
def d21 : He.DefD := ⟨("ways_between", none), "ways_between", "ways_between", defArgs (topS 21), defBody (topS 21), defScope (topS 21), [], []⟩
def d22 : He.DefD := ⟨("count_rules", none), "count_rules", "count_rules", defArgs (topS 22), defBody (topS 22), defScope (topS 22), [], []⟩
def d23 : He.DefD := ⟨("least_rule", none), "least_rule", "least_rule", defArgs (topS 23), defBody (topS 23), defScope (topS 23), [], []⟩
def d24 : He.DefD := ⟨("greatest_rule", none), "greatest_rule", "greatest_rule", defArgs (topS 24), defBody (topS 24), defScope (topS 24), [], []⟩
def d25 : He.DefD := ⟨("row_at", none), "row_at", "row_at", defArgs (topS 25), defBody (topS 25), defScope (topS 25), [], []⟩
def d26 : He.DefD := ⟨("rule_at", none), "rule_at", "rule_at", defArgs (topS 26), defBody (topS 26), defScope (topS 26), [], []⟩
def d27 : He.DefD := ⟨("rank_of_row", none), "rank_of_row", "rank_of_row", defArgs (topS 27), defBody (topS 27), defScope (topS 27), [], []⟩
def d28 : He.DefD := ⟨("rank_of_rule", none), "rank_of_rule", "rank_of_rule", defArgs (topS 28), defBody (topS 28), defScope (topS 28), [], []⟩
def d29 : He.DefD := ⟨("need_row", none), "need_row", "need_row", defArgs (topS 29), defBody (topS 29), defScope (topS 29), [], []⟩
def d30 : He.DefD := ⟨("said_row", none), "said_row", "said_row", defArgs (topS 30), defBody (topS 30), defScope (topS 30), [], []⟩
def d32 : He.DefD := ⟨("_law_taken", none), "_law_taken", "_law_taken", defArgs (topS 32), defBody (topS 32), defScope (topS 32), [], []⟩
def d33 : He.DefD := ⟨("_law_pick", none), "_law_pick", "_law_pick", defArgs (topS 33), defBody (topS 33), defScope (topS 33), [], []⟩
def d34 : He.DefD := ⟨("_law_alike", none), "_law_alike", "_law_alike", defArgs (topS 34), defBody (topS 34), defScope (topS 34), [], []⟩
def d35 : He.DefD := ⟨("_law_word", none), "_law_word", "_law_word", defArgs (topS 35), defBody (topS 35), defScope (topS 35), [], []⟩
def d36 : He.DefD := ⟨("_law_ends", none), "_law_ends", "_law_ends", defArgs (topS 36), defBody (topS 36), defScope (topS 36), [], []⟩
def d37 : He.DefD := ⟨("_law_marks", none), "_law_marks", "_law_marks", defArgs (topS 37), defBody (topS 37), defScope (topS 37), [], []⟩
def d38 : He.DefD := ⟨("_law_made", none), "_law_made", "_law_made", defArgs (topS 38), defBody (topS 38), defScope (topS 38), [], []⟩
def d39 : He.DefD := ⟨("_law_core", none), "_law_core", "_law_core", defArgs (topS 39), defBody (topS 39), defScope (topS 39), [], []⟩
def d40 : He.DefD := ⟨("_law_gaps", none), "_law_gaps", "_law_gaps", defArgs (topS 40), defBody (topS 40), defScope (topS 40), [], []⟩
def d41 : He.DefD := ⟨("_law_grown", none), "_law_grown", "_law_grown", defArgs (topS 41), defBody (topS 41), defScope (topS 41), [], []⟩
def d42 : He.DefD := ⟨("_law_sums", none), "_law_sums", "_law_sums", defArgs (topS 42), defBody (topS 42), defScope (topS 42), [], []⟩
def d43 : He.DefD := ⟨("_law_row_said", none), "_law_row_said", "_law_row_said", defArgs (topS 43), defBody (topS 43), defScope (topS 43), [], []⟩
def d44 : He.DefD := ⟨("_law_pair", none), "_law_pair", "_law_pair", defArgs (topS 44), defBody (topS 44), defScope (topS 44), [], []⟩
def d45 : He.DefD := ⟨("law", none), "law", "law", defArgs (topS 45), defBody (topS 45), defScope (topS 45), [], []⟩
def fns : List He.DefD := [d7, d8, d10, d11, d12, d13, d14, d16, d17, d18, d20, d21, d22, d23, d24, d25, d26, d27, d28, d29, d30, d32, d33, d34, d35, d36, d37, d38, d39, d40, d41, d42, d43, d44, d45]
def fa1 : List He.Fa := [.glo "is_int", .glo "need_word", .glo "runs_of", .glo "marks_of", .glo "word_of", .glo "core_of", .glo "gaps_of", .glo "need_two", .glo "grows_to", .glo "product_of", .glo "choose", .glo "ways_between", .glo "count_rules", .glo "least_rule", .glo "greatest_rule", .glo "row_at", .glo "rule_at", .glo "rank_of_row", .glo "rank_of_rule", .glo "need_row", .glo "said_row", .glo "_law_taken", .glo "_law_pick", .glo "_law_alike", .glo "_law_word", .glo "_law_ends"]
def fa2 : List He.Fa := [.glo "_law_marks", .glo "_law_made", .glo "_law_core", .glo "_law_gaps", .glo "_law_grown", .glo "_law_sums", .glo "_law_row_said", .glo "_law_pair", .glo "law", .free "isinstance", .free "int", .free "bool", .free "str", .free "len", .free "enumerate", .free "sorted", .free "set", .free "all", .free "zip", .free "range", .free "tuple", .free "list", .free "sum", .free "max", .str "LETTERS" "abcd", .int "MOST_WORD" 2000]
def fas : List He.Fa := fa1 ++ fa2
def loose1 : List PySem.Str := ["SayError", "BadWord", "BadNumber", "LETTERS", "MOST_WORD", "is_int", "need_word", "runs_of", "marks_of", "word_of", "core_of", "gaps_of", "need_two", "grows_to", "product_of", "choose", "ways_between", "count_rules", "least_rule"]
def loose2 : List PySem.Str := ["greatest_rule", "row_at", "rule_at", "rank_of_row", "rank_of_rule", "need_row", "said_row", "_law_taken", "_law_pick", "_law_alike", "_law_word", "_law_ends", "_law_marks", "_law_made", "_law_core", "_law_gaps", "_law_grown", "_law_sums", "_law_row_said", "_law_pair"]
def looseN : List PySem.Str := loose1 ++ loose2
abbrev Rw : PySem.W.OpenRow := PySem.W.OpenLaw.row PySem.Challenge.rw_saidcounts_k10_whole_rules_between
abbrev hk : PySem.W.Hook := He.hookD 4 fas fns
def obs (s : PySem.W.SharedT) : He.AlD := He.obsDG 4 fas fns (HandSHeadRun.getT s)
theorem obs_eq (s : PySem.W.SharedT) : obs s = hk.obs s.abs := He.obsDG_eq (HandSHeadRun.getT_eq s)
theorem run (w : World) : HandSHeadRun.RunEq Rw (PySem.W.view Rw.prog [45]) hk obs 3000 looseN w := by
  intro os
  kernel_rfl
section
variable {K : PySem.W.Frag} {h : Heap} {mg : Str → Option Value}
theorem df_of (X : K.In h) (G : h.Ns mainGlobals mg) (c : He.SaysD fas fns K) (i j : Nat) (x : Str) (ps : List Str) (m : Nat) (hd : fns[i]? = some ⟨(x, none), x, x, defArgs (topS j), defBody (topS j), defScope (topS j), [], []⟩) (hf : fas[i]? = some (.glo x))
    (hb : ∀ (fd : FuncData), FunD K x x (defArgs (topS j)) (defBody (topS j)) (defScope (topS j)) [] [] (He.ga K x) fd → Binds K fd ps []) : Df K mg x j ps := by
  obtain ⟨fd, F⟩ := c.def_ i (d := ⟨(x, none), x, x, defArgs (topS j), defBody (topS j), defScope (topS j), [], []⟩) hd
  exact ⟨_, fd, F, He.glo_ok X G (c.fact i (f := .glo x) hf), hb fd F⟩
theorem df7 (X : K.In h) (G : h.Ns mainGlobals mg) (c : He.SaysD fas fns K) : Df K mg "is_int" 7 ["value"] :=
  df_of X G c 0 7 "is_int" _ 0 rfl rfl fun fd F => F.bindsN fun _ _ _ _ _ _ us hl => match us, hl with | [_], _ => rfl
theorem df8 (X : K.In h) (G : h.Ns mainGlobals mg) (c : He.SaysD fas fns K) : Df K mg "need_word" 8 ["value"] :=
  df_of X G c 1 8 "need_word" _ 0 rfl rfl fun fd F => F.bindsN fun _ _ _ _ _ _ us hl => match us, hl with | [_], _ => rfl
theorem df10 (X : K.In h) (G : h.Ns mainGlobals mg) (c : He.SaysD fas fns K) : Df K mg "runs_of" 10 ["word"] :=
  df_of X G c 2 10 "runs_of" _ 0 rfl rfl fun fd F => F.bindsN fun _ _ _ _ _ _ us hl => match us, hl with | [_], _ => rfl
theorem df11 (X : K.In h) (G : h.Ns mainGlobals mg) (c : He.SaysD fas fns K) : Df K mg "marks_of" 11 ["word"] :=
  df_of X G c 3 11 "marks_of" _ 0 rfl rfl fun fd F => F.bindsN fun _ _ _ _ _ _ us hl => match us, hl with | [_], _ => rfl
theorem df12 (X : K.In h) (G : h.Ns mainGlobals mg) (c : He.SaysD fas fns K) : Df K mg "word_of" 12 ["runs"] :=
  df_of X G c 4 12 "word_of" _ 0 rfl rfl fun fd F => F.bindsN fun _ _ _ _ _ _ us hl => match us, hl with | [_], _ => rfl
theorem df13 (X : K.In h) (G : h.Ns mainGlobals mg) (c : He.SaysD fas fns K) : Df K mg "core_of" 13 ["word"] :=
  df_of X G c 5 13 "core_of" _ 0 rfl rfl fun fd F => F.bindsN fun _ _ _ _ _ _ us hl => match us, hl with | [_], _ => rfl
theorem df14 (X : K.In h) (G : h.Ns mainGlobals mg) (c : He.SaysD fas fns K) : Df K mg "gaps_of" 14 ["word"] :=
  df_of X G c 6 14 "gaps_of" _ 0 rfl rfl fun fd F => F.bindsN fun _ _ _ _ _ _ us hl => match us, hl with | [_], _ => rfl
theorem df16 (X : K.In h) (G : h.Ns mainGlobals mg) (c : He.SaysD fas fns K) : Df K mg "need_two" 16 ["one", "other"] :=
  df_of X G c 7 16 "need_two" _ 0 rfl rfl fun fd F => F.bindsN fun _ _ _ _ _ _ us hl => match us, hl with | [_, _], _ => rfl
theorem df17 (X : K.In h) (G : h.Ns mainGlobals mg) (c : He.SaysD fas fns K) : Df K mg "grows_to" 17 ["one", "other"] :=
  df_of X G c 8 17 "grows_to" _ 0 rfl rfl fun fd F => F.bindsN fun _ _ _ _ _ _ us hl => match us, hl with | [_, _], _ => rfl
theorem df18 (X : K.In h) (G : h.Ns mainGlobals mg) (c : He.SaysD fas fns K) : Df K mg "product_of" 18 ["told"] :=
  df_of X G c 9 18 "product_of" _ 0 rfl rfl fun fd F => F.bindsN fun _ _ _ _ _ _ us hl => match us, hl with | [_], _ => rfl
theorem df20 (X : K.In h) (G : h.Ns mainGlobals mg) (c : He.SaysD fas fns K) : Df K mg "choose" 20 ["many", "some"] :=
  df_of X G c 10 20 "choose" _ 0 rfl rfl fun fd F => F.bindsN fun _ _ _ _ _ _ us hl => match us, hl with | [_, _], _ => rfl
theorem df21 (X : K.In h) (G : h.Ns mainGlobals mg) (c : He.SaysD fas fns K) : Df K mg "ways_between" 21 ["one", "other"] :=
  df_of X G c 11 21 "ways_between" _ 0 rfl rfl fun fd F => F.bindsN fun _ _ _ _ _ _ us hl => match us, hl with | [_, _], _ => rfl
theorem df22 (X : K.In h) (G : h.Ns mainGlobals mg) (c : He.SaysD fas fns K) : Df K mg "count_rules" 22 ["one", "other"] :=
  df_of X G c 12 22 "count_rules" _ 0 rfl rfl fun fd F => F.bindsN fun _ _ _ _ _ _ us hl => match us, hl with | [_, _], _ => rfl
theorem df23 (X : K.In h) (G : h.Ns mainGlobals mg) (c : He.SaysD fas fns K) : Df K mg "least_rule" 23 ["one", "other"] :=
  df_of X G c 13 23 "least_rule" _ 0 rfl rfl fun fd F => F.bindsN fun _ _ _ _ _ _ us hl => match us, hl with | [_, _], _ => rfl
theorem df24 (X : K.In h) (G : h.Ns mainGlobals mg) (c : He.SaysD fas fns K) : Df K mg "greatest_rule" 24 ["one", "other"] :=
  df_of X G c 14 24 "greatest_rule" _ 0 rfl rfl fun fd F => F.bindsN fun _ _ _ _ _ _ us hl => match us, hl with | [_, _], _ => rfl
theorem df25 (X : K.In h) (G : h.Ns mainGlobals mg) (c : He.SaysD fas fns K) : Df K mg "row_at" 25 ["many", "whole", "rank"] :=
  df_of X G c 15 25 "row_at" _ 0 rfl rfl fun fd F => F.bindsN fun _ _ _ _ _ _ us hl => match us, hl with | [_, _, _], _ => rfl
theorem df26 (X : K.In h) (G : h.Ns mainGlobals mg) (c : He.SaysD fas fns K) : Df K mg "rule_at" 26 ["one", "other", "rank"] :=
  df_of X G c 16 26 "rule_at" _ 0 rfl rfl fun fd F => F.bindsN fun _ _ _ _ _ _ us hl => match us, hl with | [_, _, _], _ => rfl
theorem df27 (X : K.In h) (G : h.Ns mainGlobals mg) (c : He.SaysD fas fns K) : Df K mg "rank_of_row" 27 ["row"] :=
  df_of X G c 17 27 "rank_of_row" _ 0 rfl rfl fun fd F => F.bindsN fun _ _ _ _ _ _ us hl => match us, hl with | [_], _ => rfl
theorem df28 (X : K.In h) (G : h.Ns mainGlobals mg) (c : He.SaysD fas fns K) : Df K mg "rank_of_rule" 28 ["one", "other", "told"] :=
  df_of X G c 18 28 "rank_of_rule" _ 0 rfl rfl fun fd F => F.bindsN fun _ _ _ _ _ _ us hl => match us, hl with | [_, _, _], _ => rfl
theorem df29 (X : K.In h) (G : h.Ns mainGlobals mg) (c : He.SaysD fas fns K) : Df K mg "need_row" 29 ["value"] :=
  df_of X G c 19 29 "need_row" _ 0 rfl rfl fun fd F => F.bindsN fun _ _ _ _ _ _ us hl => match us, hl with | [_], _ => rfl
theorem df30 (X : K.In h) (G : h.Ns mainGlobals mg) (c : He.SaysD fas fns K) : Df K mg "said_row" 30 ["row", "word"] :=
  df_of X G c 20 30 "said_row" _ 0 rfl rfl fun fd F => F.bindsN fun _ _ _ _ _ _ us hl => match us, hl with | [_, _], _ => rfl
theorem df32 (X : K.In h) (G : h.Ns mainGlobals mg) (c : He.SaysD fas fns K) : Df K mg "_law_taken" 32 ["_law_row", "_law_many"] :=
  df_of X G c 21 32 "_law_taken" _ 0 rfl rfl fun fd F => F.bindsN fun _ _ _ _ _ _ us hl => match us, hl with | [_, _], _ => rfl
theorem df33 (X : K.In h) (G : h.Ns mainGlobals mg) (c : He.SaysD fas fns K) : Df K mg "_law_pick" 33 ["_law_row", "_law_things"] :=
  df_of X G c 22 33 "_law_pick" _ 0 rfl rfl fun fd F => F.bindsN fun _ _ _ _ _ _ us hl => match us, hl with | [_, _], _ => rfl
theorem df34 (X : K.In h) (G : h.Ns mainGlobals mg) (c : He.SaysD fas fns K) : Df K mg "_law_alike" 34 ["_law_found", "_law_due"] :=
  df_of X G c 23 34 "_law_alike" _ 0 rfl rfl fun fd F => F.bindsN fun _ _ _ _ _ _ us hl => match us, hl with | [_, _], _ => rfl
theorem df35 (X : K.In h) (G : h.Ns mainGlobals mg) (c : He.SaysD fas fns K) : Df K mg "_law_word" 35 ["_law_row", "_law_most", "_law_many"] :=
  df_of X G c 24 35 "_law_word" _ 0 rfl rfl fun fd F => F.bindsN fun _ _ _ _ _ _ us hl => match us, hl with | [_, _, _], _ => rfl
theorem df36 (X : K.In h) (G : h.Ns mainGlobals mg) (c : He.SaysD fas fns K) : Df K mg "_law_ends" 36 ["_law_word_here"] :=
  df_of X G c 25 36 "_law_ends" _ 0 rfl rfl fun fd F => F.bindsN fun _ _ _ _ _ _ us hl => match us, hl with | [_], _ => rfl
theorem df37 (X : K.In h) (G : h.Ns mainGlobals mg) (c : He.SaysD fas fns K) : Df K mg "_law_marks" 37 ["_law_word_here"] :=
  df_of X G c 26 37 "_law_marks" _ 0 rfl rfl fun fd F => F.bindsN fun _ _ _ _ _ _ us hl => match us, hl with | [_], _ => rfl
theorem df38 (X : K.In h) (G : h.Ns mainGlobals mg) (c : He.SaysD fas fns K) : Df K mg "_law_made" 38 ["_law_ends_here"] :=
  df_of X G c 27 38 "_law_made" _ 0 rfl rfl fun fd F => F.bindsN fun _ _ _ _ _ _ us hl => match us, hl with | [_], _ => rfl
theorem df39 (X : K.In h) (G : h.Ns mainGlobals mg) (c : He.SaysD fas fns K) : Df K mg "_law_core" 39 ["_law_word_here"] :=
  df_of X G c 28 39 "_law_core" _ 0 rfl rfl fun fd F => F.bindsN fun _ _ _ _ _ _ us hl => match us, hl with | [_], _ => rfl
theorem df40 (X : K.In h) (G : h.Ns mainGlobals mg) (c : He.SaysD fas fns K) : Df K mg "_law_gaps" 40 ["_law_word_here"] :=
  df_of X G c 29 40 "_law_gaps" _ 0 rfl rfl fun fd F => F.bindsN fun _ _ _ _ _ _ us hl => match us, hl with | [_], _ => rfl
theorem df41 (X : K.In h) (G : h.Ns mainGlobals mg) (c : He.SaysD fas fns K) : Df K mg "_law_grown" 41 ["_law_bare", "_law_widths"] :=
  df_of X G c 30 41 "_law_grown" _ 0 rfl rfl fun fd F => F.bindsN fun _ _ _ _ _ _ us hl => match us, hl with | [_, _], _ => rfl
theorem df42 (X : K.In h) (G : h.Ns mainGlobals mg) (c : He.SaysD fas fns K) : Df K mg "_law_sums" 42 ["_law_many", "_law_whole"] :=
  df_of X G c 31 42 "_law_sums" _ 0 rfl rfl fun fd F => F.bindsN fun _ _ _ _ _ _ us hl => match us, hl with | [_, _], _ => rfl
theorem df43 (X : K.In h) (G : h.Ns mainGlobals mg) (c : He.SaysD fas fns K) : Df K mg "_law_row_said" 43 ["_law_told", "_law_word_here"] :=
  df_of X G c 32 43 "_law_row_said" _ 0 rfl rfl fun fd F => F.bindsN fun _ _ _ _ _ _ us hl => match us, hl with | [_, _], _ => rfl
theorem df44 (X : K.In h) (G : h.Ns mainGlobals mg) (c : He.SaysD fas fns K) : Df K mg "_law_pair" 44 ["_law_row"] :=
  df_of X G c 33 44 "_law_pair" _ 0 rfl rfl fun fd F => F.bindsN fun _ _ _ _ _ _ us hl => match us, hl with | [_], _ => rfl
theorem df45 (X : K.In h) (G : h.Ns mainGlobals mg) (c : He.SaysD fas fns K) : Df K mg "law" 45 ["_law_script"] :=
  df_of X G c 34 45 "law" _ 0 rfl rfl fun fd F => F.bindsN fun _ _ _ _ _ _ us hl => match us, hl with | [_], _ => rfl
theorem bs_of (X : K.In h) (G : h.Ns mainGlobals mg) (c : He.SaysD fas fns K) : Bs mg :=
  ⟨He.free_ok X G (c.fact 35 (f := .free "isinstance") rfl),
    He.free_ok X G (c.fact 36 (f := .free "int") rfl),
    He.free_ok X G (c.fact 37 (f := .free "bool") rfl),
    He.free_ok X G (c.fact 38 (f := .free "str") rfl),
    He.free_ok X G (c.fact 39 (f := .free "len") rfl),
    He.free_ok X G (c.fact 40 (f := .free "enumerate") rfl),
    He.free_ok X G (c.fact 41 (f := .free "sorted") rfl),
    He.free_ok X G (c.fact 42 (f := .free "set") rfl),
    He.free_ok X G (c.fact 43 (f := .free "all") rfl),
    He.free_ok X G (c.fact 44 (f := .free "zip") rfl),
    He.free_ok X G (c.fact 45 (f := .free "range") rfl),
    He.free_ok X G (c.fact 46 (f := .free "tuple") rfl),
    He.free_ok X G (c.fact 47 (f := .free "list") rfl),
    He.free_ok X G (c.fact 48 (f := .free "sum") rfl),
    He.free_ok X G (c.fact 49 (f := .free "max") rfl),
    He.str_ok X G (c.fact 50 (f := .str "LETTERS" "abcd") rfl),
    He.int_ok X G (c.fact 51 (f := .int "MOST_WORD" 2000) rfl)⟩
end
end Sd

/-! ScH -/
/-! Comprehensions that leave the heap as it was; numbers. -/
namespace Sd
open PySem PySem.Spec PyProof.Rows L2 Sr
section
variable {J : It} {n : Nat} {G : Hp → Prop} {Y : Nat → Hp → V → Hp → Prop}
/-- what the walk yields is above the heap before it -/
theorem lc_vals (w : Walk J n G Y) {g : TG} {te : TE} {vs : List Nat} {σ : L2.St} {H1 : Hp} {D : Addr} {Qd : Hp → Prop} (ys : List V) (hn : ys.length = n) (hz : n ≤ 1000000) (hD : H1 D = none) (hG : ∀ H, Same H1 H → G H)
    (hs : ∀ i x H H', i < n → Same H1 H → Y i H x H' → ∀ R : VK, (∀ y H4, Same H H4 → ys[i]? = some y → R y H4) → g x (wipe σ vs) H' fun σ2 H2 => wipe σ2 vs = wipe σ vs ∧ te σ2 H2 R)
    (hd : ∀ H, Same H1 H → H D = some (.lst ys) → Qd H) :
    ∃ W : Nat → Nat → Hp → Prop, (∃ m, W 0 m (upd H1 D (.lst []))) ∧ ∀ i m H, W i m H →
      (J.stop i H ∧ Qd H) ∨ (J.go i H ∧ ∃ Nx : Hp → Prop, (∀ H', Nx H' → ∃ m', m' < m ∧ W (i + 1) m' H') ∧ ∀ x H', J.yld i H x H' → g x (wipe σ vs) H' fun σ2 H2 => wipe σ2 vs = wipe σ vs ∧ tYes σ2 H2 fun b H3 =>
        if b = true then te σ2 H3 fun y H4 => ∃ acc, H4 D = some (.lst acc) ∧ acc.length < sizeLine ∧ Nx (upd H4 D (.lst (acc ++ [y]))) else Nx H3) := by
  refine lc_it w (fun i H => Same H1 H ∧ H D = some (.lst (ys.take i))) ⟨same_upd hD, upd_same⟩ (fun i H _ p => hG H p.1) (fun i x H H' hi p y => ?_) (fun H p => hd H p.1 ?_)
  · refine hs i x H H' hi p.1 y (fun v H4 => ∃ acc, H4 D = some (.lst acc) ∧ acc.length < sizeLine ∧ (Same H1 (upd H4 D (.lst (acc ++ [v]))) ∧ (upd H4 D (.lst (acc ++ [v]))) D = some (.lst (ys.take (i + 1))))) ?_
    intro v H4 s4 e
    refine ⟨_, s4 _ _ p.2, ?_, same_at (p.1.trans s4) hD, ?_⟩
    · rw [List.length_take, sizeLine_eq]
      omega
    · rw [upd_same, List.take_succ, e]
      rfl
  · have q := p.2
    rw [← hn, List.take_length] at q
    exact q
/-- a comprehension that keeps none -/
theorem lc_none (w : Walk J n G Y) {g : TG} {tt : TT} {te : TE} {vs : List Nat} {σ : L2.St} {H1 : Hp} {D : Addr} {Qd : Hp → Prop} (hD : H1 D = none) (hG : ∀ H, Same H1 H → G H)
    (hs : ∀ i x H H', i < n → Same H1 H → Y i H x H' → ∀ R : L2.St → Bool → Hp → Prop, (∀ σ2 H4, Same H H4 → R σ2 false H4) → g x (wipe σ vs) H' fun σ2 H2 => wipe σ2 vs = wipe σ vs ∧ tt σ2 H2 (R σ2))
    (hd : ∀ H, Same H1 H → H D = some (.lst []) → Qd H) :
    ∃ W : Nat → Nat → Hp → Prop, (∃ m, W 0 m (upd H1 D (.lst []))) ∧ ∀ i m H, W i m H →
      (J.stop i H ∧ Qd H) ∨ (J.go i H ∧ ∃ Nx : Hp → Prop, (∀ H', Nx H' → ∃ m', m' < m ∧ W (i + 1) m' H') ∧ ∀ x H', J.yld i H x H' → g x (wipe σ vs) H' fun σ2 H2 => wipe σ2 vs = wipe σ vs ∧ tt σ2 H2 fun b H3 =>
        if b = true then te σ2 H3 fun y H4 => ∃ acc, H4 D = some (.lst acc) ∧ acc.length < sizeLine ∧ Nx (upd H4 D (.lst (acc ++ [y]))) else Nx H3) := by
  refine lc_it w (fun i H => Same H1 H ∧ H D = some (.lst [])) ⟨same_upd hD, upd_same⟩ (fun i H _ p => hG H p.1) (fun i x H H' hi p y => ?_) (fun H p => hd H p.1 p.2)
  refine hs i x H H' hi p.1 y (fun σ2 b H3 => if b = true then te σ2 H3 fun y H4 => ∃ acc, H4 D = some (.lst acc) ∧ acc.length < sizeLine ∧ (Same H1 (upd H4 D (.lst (acc ++ [y]))) ∧ (upd H4 D (.lst (acc ++ [y]))) D = some (.lst [])) else (Same H1 H3 ∧ H3 D = some (.lst []))) fun σ2 H4 s4 => ?_
  exact iteF ⟨p.1.trans s4, s4 _ _ p.2⟩
end

/-! ### numbers -/
theorem Ch_le : ∀ n k : Nat, Sc.Ch n k ≤ 2 ^ n
  | n, 0 => by
    rw [Sc.Ch_zero]
    exact Nat.one_le_two_pow
  | 0, k + 1 => Nat.zero_le _
  | n + 1, k + 1 => by
    have a := Ch_le n k
    have b := Ch_le n (k + 1)
    show Sc.Ch n k + Sc.Ch n (k + 1) ≤ 2 ^ (n + 1)
    rw [Nat.pow_succ]
    omega
/-- what choose says -/
def chI (m s : Int) : Int := if 0 ≤ s ∧ s ≤ m then (Sc.Ch m.toNat s.toNat : Nat) else 0
theorem chI_nat (m s : Nat) : chI m s = (Sc.Ch m s : Nat) := by
  unfold chI
  by_cases h : s ≤ m
  · rw [if_pos ⟨by omega, by omega⟩]
    rfl
  · rw [if_neg (by omega), Sc.Ch_gt m s (by omega)]
    rfl
theorem ch_step {m k : Nat} (h : k < m) : ((Sc.Ch m k : Nat) : Int) * ((m : Int) - (0 + (k : Nat))) / ((0 + (k : Nat)) + 1) = ((Sc.Ch m (k + 1) : Nat) : Int) := by
  rw [← Sc.Ch_turn h, Int.natCast_ediv, Int.natCast_mul, Int.natCast_sub (by omega)]
  simp
theorem mul_lt64 {i j : Int} (h0 : 0 ≤ i) (h : i ≤ 18446744073709551615) : CMul i j := .inl ⟨by omega, by omega⟩
/-- a list of numbers at a -/
def intV (ns : List Int) : List V := ns.map V.int
theorem rowV_len (r : List Nat) : (rowV r).length = r.length := List.length_map _
theorem rowV_int (r : List Nat) : rowV r = (r.map fun (n : Nat) => (n : Int)).map V.int := by
  unfold rowV
  rw [List.map_map]
  rfl
theorem rowV_at {r : List Nat} {i : Nat} {x : V} (h : (rowV r)[i]? = some x) : ∃ n : Nat, r[i]? = some n ∧ x = .int (n : Int) := by
  unfold rowV at h
  rw [List.getElem?_map] at h
  cases e : r[i]? with
  | none => rw [e] at h; cases h
  | some n =>
    rw [e] at h
    exact ⟨n, rfl, (Option.some.inj h).symm⟩
theorem rowV_get {r : List Nat} {i n : Nat} (h : r[i]? = some n) : (rowV r)[i]? = some (.int (n : Int)) := by
  unfold rowV
  rw [List.getElem?_map, h]
  rfl
/-! ### rules within a comprehension, where the store's written part must be named -/
section
variable {X : Cx} {pos apos cpos : Pos}
theorem pg_tupK (K' : PySem.W.Frag) (n : Nat) (hK : X.K = K') {es : List Expr} {k : Nat} {t : TGs} (hc : X.calm = true) (h : PGs X es t)
    (hn : (assignEach es X.env).length = n := by rfl) (hst : (assignEach es X.env).findIdx? (·.1) = none := by rfl) : PG X (.Tuple es k pos) (gTup K' n t) := hK ▸ pg_tup hc h hn hst
theorem ix_listK (K' : PySem.W.Frag) (hK : X.K = K') : IxR X (rIxL K') := hK ▸ ix_list
theorem ix_seqK (K' : PySem.W.Frag) (hK : X.K = K') : IxR X (L2.rIx K') := hK ▸ ix_seq
theorem op_catAK (K' : PySem.W.Frag) (hK : X.K = K') : OpR X (binaryOp .Add) (rCatA K') := hK ▸ op_catA
theorem mt_indexK (K' : PySem.W.Frag) (hK : X.K = K') : MtR X "list.index" (rIndex K') := hK ▸ mt_index
theorem pe_bmK (K' : PySem.W.Frag) (hK : X.K = K') {o e : Expr} {es : List Expr} {to : TE} {t : TA} {name : Str} {T id : String} {r : V → List V → Hp → VK → Prop}
    (pa : PlainAttrs T) (slot : Slot T name id) (hty : typeOf (.builtin id) = pure (.type "method_descriptor")) (hm : MtR X id r) (ho : PE X o to) (ha : PA X (e :: es) t)
    (hbase : attributeBase o name X.env (eval o X.env) = eval o X.env := by rfl)
    (hfew : ((backTo cpos (starEach (e :: es) X.env)).all (fun x => !x.1) && (backToKw cpos (keywordEach [] X.env)).all (fun x => x.1.isSome)
      && decide ((e :: es).length + ([] : List Keyword).length + (if ([] : List Keyword).isEmpty then 0 else 1) < 30)) = true := by rfl)
    (hline : (apos.endLine == cpos.line) = true := by rfl) (hs : starEach (e :: es) X.env = (false, eval e X.env) :: starEach es X.env := by rfl) (hplain : (backTo cpos (starEach es X.env)).any (·.1) = false := by rfl) :
    PE X (.Call (.Attribute o name apos) (e :: es) [] cpos) (tBM K' T r to t) := hK ▸ pe_bm pa slot hty hm ho ha hbase hfew hline hs hplain
end
end Sd

/-! ScData -/
/-! Rows and runs as data that are compared whole; lists of tuples kept over stores. -/
namespace Sd
open PySem PySem.Spec PyProof.Rows L2 Sr
def rowD (r : List Nat) : PyData := .tuple (r.map fun (n : Nat) => PyData.int (n : Int))
def rowsD (rs : List (List Nat)) : PyData := .list (rs.map rowD)
def runD (e : Nat × Nat) : PyData := .tuple [.str (S [e.1]), .int (e.2 : Int)]
def runsD (E : List (Nat × Nat)) : PyData := .list (E.map runD)
theorem lay_ints : ∀ r : List Nat, PyData.canLayAll0 (r.map fun (n : Nat) => PyData.int (n : Int)) = true ∧ PyData.depthAll (r.map fun (n : Nat) => PyData.int (n : Int)) = 0
  | [] => ⟨rfl, rfl⟩
  | n :: r => by
    obtain ⟨h1, h2⟩ := lay_ints r
    refine ⟨?_, ?_⟩
    · rw [List.map_cons]
      unfold PyData.canLayAll0
      rw [h1]
      rfl
    · rw [List.map_cons]
      unfold PyData.depthAll
      rw [h2]
      rfl
theorem lay_rows : ∀ rs : List (List Nat), PyData.canLayAll0 (rs.map rowD) = true ∧ PyData.depthAll (rs.map rowD) ≤ 1
  | [] => ⟨rfl, Nat.zero_le _⟩
  | r :: rs => by
    obtain ⟨h1, h2⟩ := lay_rows rs
    obtain ⟨g1, g2⟩ := lay_ints r
    refine ⟨?_, ?_⟩
    · rw [List.map_cons]
      unfold PyData.canLayAll0
      rw [h1]
      show ((PyData.canLayAll0 (r.map fun (n : Nat) => PyData.int (n : Int))) && true) = true
      rw [g1]
      rfl
    · rw [List.map_cons]
      unfold PyData.depthAll
      have e : (rowD r).depth = 1 := by
        show PyData.depthAll (r.map fun (n : Nat) => PyData.int (n : Int)) + 1 = 1
        rw [g2]
      rw [e]
      omega
theorem shaped_row (r : List Nat) : SeqAt.shaped (rowD r) = true := by
  obtain ⟨g1, g2⟩ := lay_ints r
  show (PyData.canLayAll0 (r.map fun (n : Nat) => PyData.int (n : Int)) && decide (PyData.depthAll (r.map fun (n : Nat) => PyData.int (n : Int)) + 1 ≤ 64)) = true
  rw [g1, g2]
  decide
theorem shaped_rows (rs : List (List Nat)) : SeqAt.shaped (rowsD rs) = true := by
  obtain ⟨g1, g2⟩ := lay_rows rs
  show (PyData.canLayAll0 (rs.map rowD) && decide (PyData.depthAll (rs.map rowD) + 1 ≤ 64)) = true
  rw [g1, decide_eq_true (by omega)]
  rfl
theorem shaped_nil : SeqAt.shaped (.list []) = true := by decide
theorem lay_runs : ∀ E : List (Nat × Nat), (∀ e ∈ E, e.1 ≤ 100) → PyData.canLayAll0 (E.map runD) = true ∧ PyData.depthAll (E.map runD) ≤ 1
  | [], _ => ⟨rfl, Nat.zero_le _⟩
  | e :: E, h => by
    obtain ⟨h1, h2⟩ := lay_runs E fun x hx => h x (List.mem_cons_of_mem _ hx)
    have he := h e List.mem_cons_self
    refine ⟨?_, ?_⟩
    · rw [List.map_cons]
      unfold PyData.canLayAll0
      rw [h1]
      show (((PyData.strOk (S [e.1])) && (true && true)) && true) = true
      have : PyData.strOk (S [e.1]) = true := by
        show (#[e.1] : Array Nat).all (· < 0x110000) = true
        simp
        omega
      rw [this]
      rfl
    · rw [List.map_cons]
      unfold PyData.depthAll
      have e : (runD e).depth = 1 := rfl
      rw [e]
      omega
theorem shaped_runs {E : List (Nat × Nat)} (h : ∀ e ∈ E, e.1 ≤ 100) : SeqAt.shaped (runsD E) = true := by
  obtain ⟨g1, g2⟩ := lay_runs E h
  show (PyData.canLayAll0 (E.map runD) && decide (PyData.depthAll (E.map runD) + 1 ≤ 64)) = true
  rw [g1, decide_eq_true (by omega)]
  rfl
theorem eqv_ints : ∀ r s : List Nat, PyData.eqvAll (r.map fun (n : Nat) => PyData.int (n : Int)) (s.map fun (n : Nat) => PyData.int (n : Int)) = decide (r = s)
  | [], [] => rfl
  | [], _ :: _ => rfl
  | _ :: _, [] => rfl
  | m :: r, n :: s => by
    rw [List.map_cons, List.map_cons]
    unfold PyData.eqvAll
    rw [eqv_ints r s]
    show (((m : Int) == (n : Int)) && decide (r = s)) = decide (m :: r = n :: s)
    by_cases h : m = n
    · subst h
      simp
    · have : ¬ ((m : Int) = (n : Int)) := by omega
      simp [h, this]
theorem eqv_row (r s : List Nat) : PyData.eqv (rowD r) (rowD s) = decide (r = s) := by
  unfold rowD PyData.eqv
  exact eqv_ints r s
theorem eqv_nil (ds : List PyData) : PyData.eqv (.list ds) (.list []) = ds.isEmpty := by
  unfold PyData.eqv
  cases ds with
  | nil => rfl
  | cons d ds => rfl
section
variable {K : PySem.W.Frag}
theorem dp_ints {H : Hp} : ∀ r : List Nat, DpAll K H (rowV r) (r.map fun (n : Nat) => PyData.int (n : Int))
  | [] => .nil
  | n :: r => .cons (.int (n : Int)) (dp_ints r)
theorem dp_row {H : Hp} {t : Addr} {r : List Nat} (h : H t = some (.tup (rowV r))) : Dp K H (.ref t) (rowD r) := .tup (SqT.of h) (dp_ints r)
theorem dp_all {α : Type} {f : α → List V} {g : α → PyData} {H : Hp} (one : ∀ t x, H t = some (.tup (f x)) → Dp K H (.ref t) (g x)) : ∀ {ts : List Addr} {xs : List α}, PT0 f H ts xs → DpAll K H (ts.map V.ref) (xs.map g)
  | _, _, .nil => .nil
  | _, _, .cons h t => .cons (one _ _ h) (dp_all one t)
theorem dp_rows {H : Hp} {p : Addr} {rs : List (List Nat)} (h : TupL rowV H p rs) : Dp K H (.ref p) (rowsD rs) := by
  obtain ⟨ts, h1, h2⟩ := h
  exact .lst (SqL.of h1) (dp_all (fun t x e => dp_row e) h2)
theorem dp_runs {H : Hp} {p : Addr} {E : List (Nat × Nat)} (h : TupL runV H p E) : Dp K H (.ref p) (runsD E) := by
  obtain ⟨ts, h1, h2⟩ := h
  exact .lst (SqL.of h1) (dp_all (fun t x e => .tup (SqT.of e) (.cons (.str _) (.cons (.int _) .nil))) h2)
theorem dp_nil {H : Hp} {p : Addr} (h : H p = some (.lst [])) : Dp K H (.ref p) (.list []) := .lst (SqL.of h) .nil
end
/-- a store at what is neither the list nor one of its tuples -/
theorem TupL.put {α : Type} {f : α → List V} {H : Hp} {p a : Addr} {o : HO} {xs : List α} (h : TupL f H p xs) (hp : p ≠ a) (ha : ∀ ys, H a ≠ some (.tup ys)) : TupL f (upd H a o) p xs := by
  obtain ⟨ts, h1, h2⟩ := h
  exact ⟨ts, by rw [upd_ne hp]; exact h1, pt_upd ha h2⟩
theorem dk_notup {H : Hp} {a : Addr} {kvs : List (Key × V)} (h : H a = some (.dK kvs)) : ∀ ys, H a ≠ some (.tup ys) := fun ys e => by
  rw [h] at e
  cases e
theorem lst_ne_dk {H : Hp} {p a : Addr} {vs : List V} {kvs : List (Key × V)} (h1 : H p = some (.lst vs)) (h2 : H a = some (.dK kvs)) : p ≠ a := fun e => by
  rw [e, h2] at h1
  cases h1
end Sd

/-! ScH2 -/
/-! Comprehensions of new tuples; texts cut, joined, counted; places in lists of numbers. -/
namespace Sd
open PySem PySem.Spec PyProof.Rows L2 Sr
section
variable {J : It} {n : Nat} {G : Hp → Prop} {Y : Nat → Hp → V → Hp → Prop}
/-- a new tuple each turn (or one that was there) -/
theorem lc_tups {α : Type} (w : Walk J n G Y) {g : TG} {te : TE} {vs : List Nat} {σ : L2.St} {H1 : Hp} {D : Addr} {Qd : Hp → Prop} (f : α → List V) (ys : List α) (hn : ys.length = n) (hz : n ≤ 1000000) (hD : H1 D = none) (hG : ∀ H, Same H1 H → G H)
    (hs : ∀ i x H H', i < n → Same H1 H → Y i H x H' → ∀ R : VK, (∀ t H4 y, Same H H4 → ys[i]? = some y → H4 t = some (.tup (f y)) → R (.ref t) H4) → g x (wipe σ vs) H' fun σ2 H2 => wipe σ2 vs = wipe σ vs ∧ te σ2 H2 R)
    (hd : ∀ H, Same H1 H → TupL f H D ys → Qd H) :
    ∃ W : Nat → Nat → Hp → Prop, (∃ m, W 0 m (upd H1 D (.lst []))) ∧ ∀ i m H, W i m H →
      (J.stop i H ∧ Qd H) ∨ (J.go i H ∧ ∃ Nx : Hp → Prop, (∀ H', Nx H' → ∃ m', m' < m ∧ W (i + 1) m' H') ∧ ∀ x H', J.yld i H x H' → g x (wipe σ vs) H' fun σ2 H2 => wipe σ2 vs = wipe σ vs ∧ tYes σ2 H2 fun b H3 =>
        if b = true then te σ2 H3 fun y H4 => ∃ acc, H4 D = some (.lst acc) ∧ acc.length < sizeLine ∧ Nx (upd H4 D (.lst (acc ++ [y]))) else Nx H3) := by
  refine lc_it w (fun i H => Same H1 H ∧ TupL f H D (ys.take i)) ⟨same_upd hD, TupL.nil⟩ (fun i H _ p => hG H p.1) (fun i x H H' hi p y => ?_) (fun H p => hd H p.1 ?_)
  · refine hs i x H H' hi p.1 y (fun v H4 => ∃ acc, H4 D = some (.lst acc) ∧ acc.length < sizeLine ∧ (Same H1 (upd H4 D (.lst (acc ++ [v]))) ∧ TupL f (upd H4 D (.lst (acc ++ [v]))) D (ys.take (i + 1)))) ?_
    intro t H4 z s4 e et
    obtain ⟨vs1, hv, hl, hT⟩ := (p.2.same s4).push et
    refine ⟨vs1, hv, ?_, same_at (p.1.trans s4) hD, ?_⟩
    · rw [hl, List.length_take, sizeLine_eq]
      omega
    · rw [Sc.take_snoc e]
      exact hT
  · have q := p.2
    rw [← hn, List.take_length] at q
    exact q
end
/-! ### texts -/
theorem joinL_nil : ∀ ls : List (List Nat), TL.joinL [] ls = ls.flatten
  | [] => rfl
  | [p] => by
    show p = ([p] : List (List Nat)).flatten
    simp
  | p :: q :: r => by
    show p ++ ([] ++ TL.joinL [] (q :: r)) = _
    rw [joinL_nil (q :: r)]
    simp
theorem join_S (ls : List (List Nat)) : Txt.join "" (ls.map S) = S ls.flatten := by
  rw [TL.join_eq]
  have h := TL.tl_join ("" : Str) (ls.map S)
  rw [show TL.tl ("" : Str) = [] from rfl, joinL_nil, List.map_map] at h
  have e : (TL.tl ∘ S) = id := by
    funext l
    rfl
  rw [e, List.map_id] at h
  have e2 : Str.join ("" : Str) (ls.map S) = S (TL.tl (Str.join ("" : Str) (ls.map S))) := by
    cases h3 : Str.join ("" : Str) (ls.map S) with
    | mk a => cases a; rfl
  rw [e2, h]
theorem rep_S (n c : Nat) : (⟨(List.replicate n c).toArray⟩ : Str) = S (List.replicate n c) := rfl
theorem cut_to (l : List Nat) (k : Nat) : cutS (S l) none (some (k : Int)) = S (l.take k) := by
  unfold cutS
  rw [HT.sIx_none, HT.sIx_nat, S_len, S_list, Nat.sub_zero, List.drop_zero]
  show S (l.take (min k l.length)) = _
  have e : l.take (min k l.length) = l.take k := List.take_eq_take_iff.mpr (by omega)
  rw [e]
theorem cut_from (l : List Nat) (k : Nat) : cutS (S l) (some (k : Int)) none = S (l.drop k) := by
  unfold cutS
  rw [HT.sIx_none, HT.sIx_nat, S_len, S_list]
  show S ((l.drop (min k l.length)).take (l.length - min k l.length)) = _
  rw [List.take_of_length_le (by rw [List.length_drop]; omega)]
  by_cases h : k ≤ l.length
  · rw [Nat.min_eq_left h]
  · rw [Nat.min_eq_right (by omega), List.drop_length, List.drop_of_length_le (by omega)]
theorem cnt_S (c : Nat) : ∀ l : List Nat, PyProof.Rows.cnt c l = (l.count c : Nat)
  | [] => rfl
  | n :: l => by
    rw [PyProof.Rows.cnt_cons, cnt_S c l, List.count_cons]
    by_cases h : n = c
    · subst h
      simp
      omega
    · simp [h]
theorem count_S (l : List Nat) (c : Nat) : Txt.count (S l) (S [c]) = (l.count c : Nat) := by
  have h := PyProof.Rows.count_cnt (S l) c
  rw [S_list, cnt_S] at h
  exact h
/-! ### places -/
theorem eqV_int {a b : Nat} : eqV (.int (a : Int)) (.int (b : Int)) = decide (a = b) := by
  show ((a : Int) == (b : Int)) = _
  by_cases h : a = b
  · subst h
    simp
  · have : ¬ ((a : Int) = (b : Int)) := by omega
    simp [h, this]
theorem flat_row (r : List Nat) : (rowV r).all flatV = true := by
  rw [List.all_eq_true]
  intro x hx
  obtain ⟨n, _, rfl⟩ := List.mem_map.mp hx
  rfl
theorem idx_first {c : Nat} : ∀ {r : List Nat} {m : Nat}, r[m]? = some c → r.idxOf c ≤ m
  | [], _, h => by simp at h
  | x :: r, m, h => by
    rw [List.idxOf_cons]
    by_cases e : x = c
    · subst e
      simp
    · have e2 : (x == c) = false := by simpa using e
      rw [e2]
      cases m with
      | zero => simp at h; exact absurd h e
      | succ m =>
        have := idx_first (r := r) (m := m) (by simpa using h)
        simp
        omega
/-- where a number stands first -/
theorem first_at {r : List Nat} {c : Nat} (h : c ∈ r) : (rowV r)[r.idxOf c]? = some (.int (c : Int)) ∧ ∀ (m : Nat) (z : V), m < r.idxOf c → (rowV r)[m]? = some z → eqV z (.int (c : Int)) = false := by
  refine ⟨rowV_get (Sc.idx_get h), fun m z hm hz => ?_⟩
  obtain ⟨n, hn, rfl⟩ := rowV_at hz
  rw [eqV_int]
  refine decide_eq_false fun e => ?_
  subst e
  have := idx_first hn
  omega
/-- ints strictly ascending that are the marks' members -/
theorem marks_of_ints {cs : List Nat} {ns : List Int} (hp : ns.Pairwise (· < ·)) (hm : ∀ k : Int, k ∈ ns ↔ k ∈ (0 : Int) :: cs.map fun (c : Nat) => (c : Int)) : ns.map V.int = rowV (Sc.mk cs) := by
  have h0 : ∀ k ∈ ns, 0 ≤ k := fun k hk => by
    rcases List.mem_cons.mp ((hm k).mp hk) with e | e
    · omega
    · obtain ⟨c, _, rfl⟩ := List.mem_map.mp e
      omega
  have e : ns = (ns.map Int.toNat).map fun (c : Nat) => (c : Int) := by
    rw [List.map_map]
    conv => lhs; rw [← List.map_id ns]
    refine List.map_congr_left fun k hk => ?_
    have := h0 k hk
    show k = ((k.toNat : Nat) : Int)
    omega
  have u : ns.map Int.toNat = Sc.mk cs := by
    refine Sc.mk_uniq ?_ fun j => ?_
    · unfold Sc.Asc
      rw [List.pairwise_map]
      refine hp.imp_of_mem fun {a b} ha hb hab => ?_
      have := h0 a ha
      have := h0 b hb
      omega
    · constructor
      · intro hj
        obtain ⟨k, hk, rfl⟩ := List.mem_map.mp hj
        rcases List.mem_cons.mp ((hm k).mp hk) with e | e
        · left; omega
        · right
          obtain ⟨c, hc, rfl⟩ := List.mem_map.mp e
          rw [Int.toNat_natCast]
          exact hc
      · rintro (rfl | hj)
        · exact List.mem_map.mpr ⟨0, (hm 0).mpr List.mem_cons_self, rfl⟩
        · exact List.mem_map.mpr ⟨(j : Int), (hm j).mpr (List.mem_cons_of_mem _ (List.mem_map.mpr ⟨j, hj, rfl⟩)), Int.toNat_natCast j⟩
  rw [← u]
  unfold rowV
  rw [List.map_map]
  conv => lhs; rw [e]
  rw [List.map_map, List.map_map]
  refine List.map_congr_left fun k hk => ?_
  show V.int _ = V.int _
  simp
end Sd

/-! ScD1 -/
/-! Tests of arguments: is_int, need_word, need_two, need_row. -/
namespace Sd
open PySem PySem.Spec PyProof.Rows L2 Sr
variable {P : Program} {w : World} {K : PySem.W.Frag} {mg : Str → Option Value} {base : Heap}
abbrev N7 : List Str := ["value"]
theorem sc7 : FnScope N7 ["value"] (defScope (topS 7)) := ⟨rfl, rfl, rfl, by decide +kernel, rfl, by decide +kernel, by decide +kernel⟩
def spIsInt : Sp := fun vs H Q _ => ∃ i : Int, vs = [.int i] ∧ Q (.bl true) H
theorem ok_isint (B : Bs mg) (D : Df K mg "is_int" 7 ["value"]) : Ok P w K mg base 1 "is_int" spIsInt := by
  refine mkOk D sc7 (fun vs H Q E h => ?_) (fun f cdv A outer s H vs Q E hr h => ⟨_, (pss_one (ps_ret (pe_and (pe_callB call_isi (by rfl) B.isinstance (by decide +kernel) (pa_cons (pv 0) (pa_cons (pe_bltn (v := .ty "int") (by rfl) B.int (by decide +kernel) rfl) pa_nil))) (pe_one (pe_not (pe_callB call_isi (by rfl) B.isinstance (by decide +kernel) (pa_cons (pv 0) (pa_cons (pe_bltn (v := .ty "bool") (by rfl) B.bool (by decide +kernel) rfl) pa_nil)))))))), ?_⟩)
  · obtain ⟨i, rfl, _⟩ := h
    rfl
  · obtain ⟨i, rfl, hQ⟩ := h
    refine ⟨_, rfl, _, _, _, _, _, rfl, ClsV.ty _, TyX.base (TyOf.int i), kit_ty (by decide +kernel), true, rfl, ?_⟩
    refine iteT ?_
    refine ⟨_, rfl, _, _, _, _, _, rfl, ClsV.ty _, TyX.base (TyOf.int i), kit_ty (by decide +kernel), false, rfl, ?_⟩
    exact hQ
abbrev N8 : List Str := ["value", "place", "sign"]
theorem sc8 : FnScope N8 ["value"] (defScope (topS 8)) := ⟨rfl, rfl, rfl, by decide +kernel, rfl, by decide +kernel, by decide +kernel⟩
def spWord : Sp := fun vs H Q _ => ∃ l : List Nat, vs = [.str (S l)] ∧ Wd l ∧ l.length ≤ 2000 ∧ ∀ H', Same H H' → Q .non H'
theorem str_small {l : List Nat} (h : l.length ≤ 1000000) : (S l).length ≤ sizeLine := by
  rw [S_len, sizeLine_eq]
  omega
theorem in_abcd {c : Nat} (h : 97 ≤ c ∧ c ≤ 100) : c ∈ (("abcd" : Str).cps.toList) := by
  rw [S_abcd]
  show c ∈ [97, 98, 99, 100]
  simp only [List.mem_cons, List.not_mem_nil, or_false]
  omega
theorem S_at {l : List Nat} {i c : Nat} (h : (S l).cps[i]? = some c) : l[i]? = some c := by
  rw [S_get] at h
  exact h
theorem Wd.at {l : List Nat} (h : Wd l) {i c : Nat} (e : l[i]? = some c) : 97 ≤ c ∧ c ≤ 100 := h c (List.mem_of_getElem? e)
theorem ok_word (B : Bs mg) (D : Df K mg "need_word" 8 ["value"]) : Ok P w K mg base 1 "need_word" spWord := by
  obtain ⟨tL, hL⟩ := B.letters
  obtain ⟨tM, hM⟩ := B.most
  refine mkOk D sc8 (fun vs H Q E h => ?_) (fun f cdv A outer s H vs Q E hr h => ⟨_, (pss_cons (ps_if (PW.pt (pw_or (pt_not (pt_val (pe_callB call_isi (by rfl) B.isinstance (by decide +kernel) (pa_cons (pv 0) (pa_cons (pe_bltn (v := .ty "str") (by rfl) B.str (by decide +kernel) rfl) pa_nil))))) (pw_or1 (pt_cmpR op_gt (pe_callB call_len_str (by rfl) B.len (by decide +kernel) (pa_cons (pv 0) pa_nil)) (pe_glob (v := .int 2000) (by rfl) hM ⟨tM, rfl⟩) (nomark _))))) pss_never pss_nil)
      (pss_one (ps_for PassesOwn.never rfl (pi_enumS (by rfl) B.enumerate (pa_cons (pv 0) pa_nil)) (pg_tup (by rfl) (pgs_cons (pg_name (i := 1) sc8.nd rfl (.inl rfl)) (pgs_cons (pg_name (i := 2) sc8.nd rfl (.inl rfl)) pgs_nil))) (pss_one (ps_if (pt_cmpR op_notIn_sign (pv 2) (pe_glob (v := .str "abcd") (by rfl) hL ⟨tL, rfl⟩) (by rfl)) pss_never pss_nil))))), ?_⟩)
  · obtain ⟨i, rfl, _⟩ := h
    rfl
  · obtain ⟨l, rfl, hW, hl, hQ⟩ := h
    refine ⟨_, rfl, _, _, _, _, _, rfl, ClsV.ty _, TyX.base (TyOf.str (S l)), kit_ty (by decide +kernel), true, rfl, ?_⟩
    refine iteF ?_
    refine ⟨_, rfl, _, rfl, str_small (by omega), _, _, rfl, rfl, false, ?_, ?_⟩
    · show V.bl (decide ((2000 : Int) < ((S l).length : Int))) = V.bl false
      rw [S_len, decide_eq_false (by omega)]
    refine iteF ?_
    refine ⟨_, rfl, S l, rfl, ?_⟩
    refine for_it walk_g (fun i σ H' => Same H H' ∧ ∃ a b, σ = [some (.str (S l)), a, b]) ⟨Same.refl H, _, _, rfl⟩ (fun _ _ _ _ _ => True.intro) (fun i x σ H1 H2 hi p y => ?_) (fun σ H' p => hQ H' p.1)
    obtain ⟨sm, a, b, rfl⟩ := p
    obtain ⟨T, xs, rfl, hT, rfl, c, hc, rfl⟩ := y
    refine ⟨T, _, rfl, SqT.of upd_same, rfl, _, _, rfl, _, _, rfl, rfl, ?_⟩
    refine ⟨_, rfl, c, _, rfl, rfl, false, ?_, ?_⟩
    · show V.bl (!decide (c ∈ (("abcd" : Str).cps.toList))) = V.bl false
      rw [decide_eq_true (in_abcd (hW.at (S_at hc)))]
      rfl
    refine iteF ?_
    exact ⟨sm.trans (same_upd hT), _, _, rfl⟩
abbrev N16 : List Str := ["one", "other"]
theorem sc16 : FnScope N16 ["one", "other"] (defScope (topS 16)) := ⟨rfl, rfl, rfl, by decide +kernel, rfl, by decide +kernel, by decide +kernel⟩
def spTwo : Sp := fun vs H Q _ => ∃ u v : List Nat, vs = [.str (S u), .str (S v)] ∧ Wd u ∧ u.length ≤ 2000 ∧ Wd v ∧ v.length ≤ 2000 ∧ ∀ H', Same H H' → Q .non H'
theorem ok_two (B : Bs mg) (D : Df K mg "need_two" 16 ["one", "other"]) (O8 : Ok P w K mg base 1 "need_word" spWord) : Ok P w K mg base 2 "need_two" spTwo := by
  refine mkOk D sc16 (fun vs H Q E h => ?_) (fun f cdv A outer s H vs Q E hr h => ⟨_, (pss_cons (ps_expr (pe_k O8 hr (by decide) (by rfl) (pa_cons (pv 0) pa_nil)))
      (pss_one (ps_expr (pe_k O8 hr (by decide) (by rfl) (pa_cons (pv 1) pa_nil))))), ?_⟩)
  · obtain ⟨u, v, rfl, _⟩ := h
    rfl
  · obtain ⟨u, v, rfl, h1, h2, h3, h4, hQ⟩ := h
    refine ⟨_, rfl, u, rfl, h1, h2, fun H1 s1 => ?_⟩
    refine ⟨_, rfl, v, rfl, h3, h4, fun H2 s2 => ?_⟩
    exact hQ H2 (s1.trans s2)
end Sd

/-! ScD2 -/
/-! Numbers: product_of, choose, ways_between; need_row. -/
namespace Sd
open PySem PySem.Spec PyProof.Rows L2 Sr
variable {P : Program} {w : World} {K : PySem.W.Frag} {mg : Str → Option Value} {base : Heap}
abbrev N20 : List Str := ["many", "some", "found", "at"]
theorem sc20 : FnScope N20 ["many", "some"] (defScope (topS 20)) := ⟨rfl, rfl, rfl, by decide +kernel, rfl, by decide +kernel, by decide +kernel⟩
def spChoose : Sp := fun vs H Q _ => ∃ m s : Int, vs = [.int m, .int s] ∧ m ≤ 60 ∧ Q (.int (chI m s)) H
theorem ok_choose (B : Bs mg) (D : Df K mg "choose" 20 ["many", "some"]) : Ok P w K mg base 1 "choose" spChoose := by
  refine mkOk D sc20 (fun vs H Q E h => ?_) (fun f cdv A outer s H vs Q E hr h => ⟨_, (pss_cons (ps_if (pt_not (pt_chain op_le op_le pe_int (pv 1) (pv 0))) (pss_one (ps_ret pe_int)) pss_nil)
      (pss_cons (ps_set (i := 2) sc20.nd rfl (.inl rfl) pe_int)
      (pss_cons (ps_for PassesOwn.never rfl (pi_range1 (by rfl) B.range (pa_cons (pv 1) pa_nil)) (pg_name (i := 3) sc20.nd rfl (.inl rfl)) (pss_one (ps_set (i := 2) sc20.nd rfl (.inl rfl) (pe_op op_fdivW (pe_op op_mul (pv 2) (pe_op op_sub (pv 0) (pv 3))) (pe_op op_add (pv 3) pe_int)))))
      (pss_one (ps_ret (pv 2)))))), ?_⟩)
  · obtain ⟨m, s, rfl, _⟩ := h
    rfl
  · obtain ⟨m, s, rfl, hm, hQ⟩ := h
    unfold chI at hQ
    by_cases h0 : 0 ≤ s
    · by_cases h1 : s ≤ m
      · obtain ⟨j, rfl⟩ : ∃ j : Nat, s = (j : Nat) := ⟨s.toNat, by omega⟩
        obtain ⟨k, rfl⟩ : ∃ k : Nat, m = (k : Nat) := ⟨m.toNat, by omega⟩
        rw [if_pos ⟨h0, h1⟩] at hQ
        refine ⟨_, rfl, _, _, rfl, rfl, true, ?_, iteT ?_⟩
        · show V.bl (decide ((0 : Int) ≤ (j : Nat))) = V.bl true
          rw [decide_eq_true h0]
        refine ⟨_, rfl, _, _, rfl, rfl, true, ?_, iteF ?_⟩
        · show V.bl (decide (((j : Nat) : Int) ≤ (k : Nat))) = V.bl true
          rw [decide_eq_true h1]
        refine ⟨_, rfl, _, rfl, by omega, by omega, ?_⟩
        refine for_it walk_range (fun i σ H' => H' = H ∧ ∃ a, σ = [some (.int (k : Nat)), some (.int (j : Nat)), some (.int ((Sc.Ch k i : Nat))), a]) ⟨rfl, none, by rw [Sc.Ch_zero]; rfl⟩ (fun _ _ _ _ _ => True.intro) (fun i x σ H1 H2 hi p y => ?_) (fun σ H' p => ?_)
        · obtain ⟨rfl, a, rfl⟩ := p
          obtain ⟨rfl, rfl⟩ := y
          have hi2 : i < k := by omega
          refine ⟨_, rfl, _, rfl, _, rfl, _, _, rfl, rfl, ?_⟩
          have hb := Ch_le k i
          have hb2 : 2 ^ k ≤ 2 ^ 60 := Nat.pow_le_pow_right (by decide) (by omega)
          refine ⟨_, _, rfl, rfl, mul_lt64 (by omega) (by omega), _, rfl, _, _, rfl, rfl, _, _, rfl, rfl, wide_div (b := 62) (by omega) (by omega) (by decide) (by decide), rfl, some (.int (0 + (i : Nat))), ?_⟩
          rw [← ch_step hi2]
          rfl
        · obtain ⟨rfl, a, rfl⟩ := p
          exact ⟨_, rfl, hQ⟩
      · rw [if_neg (by omega)] at hQ
        refine ⟨_, rfl, _, _, rfl, rfl, true, ?_, iteT ?_⟩
        · show V.bl (decide ((0 : Int) ≤ s)) = V.bl true
          rw [decide_eq_true h0]
        refine ⟨_, rfl, _, _, rfl, rfl, false, ?_, iteT hQ⟩
        show V.bl (decide (s ≤ m)) = V.bl false
        rw [decide_eq_false h1]
    · rw [if_neg (by omega)] at hQ
      refine ⟨_, rfl, _, _, rfl, rfl, false, ?_, iteF ?_⟩
      · show V.bl (decide ((0 : Int) ≤ s)) = V.bl false
        rw [decide_eq_false h0]
      exact ⟨false, rfl, iteT hQ⟩
abbrev N21 : List Str := ["one", "other"]
theorem sc21 : FnScope N21 ["one", "other"] (defScope (topS 21)) := ⟨rfl, rfl, rfl, by decide +kernel, rfl, by decide +kernel, by decide +kernel⟩
def spWays : Sp := fun vs H Q _ => ∃ a b : Nat, vs = [.int (a : Nat), .int (b : Nat)] ∧ 1 ≤ a ∧ 1 ≤ b ∧ b ≤ 60 ∧ Q (.int (Sc.ways a b : Nat)) H
theorem ok_ways (B : Bs mg) (D : Df K mg "ways_between" 21 ["one", "other"]) (O20 : Ok P w K mg base 1 "choose" spChoose) : Ok P w K mg base 2 "ways_between" spWays := by
  refine mkOk D sc21 (fun vs H Q E h => ?_) (fun f cdv A outer s H vs Q E hr h => ⟨_, (pss_one (ps_ret (pe_k O20 hr (by decide) (by rfl) (pa_cons (pe_op op_sub (pv 1) pe_int) (pa_cons (pe_op op_sub (pv 0) pe_int) pa_nil))))), ?_⟩)
  · obtain ⟨a, b, rfl, _⟩ := h
    rfl
  · obtain ⟨a, b, rfl, ha, hb, hb2, hQ⟩ := h
    refine ⟨_, rfl, _, _, rfl, rfl, _, rfl, _, _, rfl, rfl, _, _, rfl, by omega, ?_⟩
    rw [show ((b : Int) - 1) = ((b - 1 : Nat) : Int) by omega, show ((a : Int) - 1) = ((a - 1 : Nat) : Int) by omega, chI_nat]
    exact hQ
abbrev N18 : List Str := ["told", "found", "one"]
theorem sc18 : FnScope N18 ["told"] (defScope (topS 18)) := ⟨rfl, rfl, rfl, by decide +kernel, rfl, by decide +kernel, by decide +kernel⟩
def spProd (K : PySem.W.Frag) : Sp := fun vs H Q _ => ∃ (a : Addr) (r : List Nat), vs = [.ref a] ∧ SqL K H a (rowV r) ∧ (∀ x ∈ r, x ≤ 1000000) ∧ Q (.int (Sc.prod r : Nat)) H
theorem prod_snoc (r : List Nat) (x : Nat) : Sc.prod (r ++ [x]) = Sc.prod r * x := by
  unfold Sc.prod
  rw [List.foldl_append]
  rfl
theorem ok_prod (B : Bs mg) (D : Df K mg "product_of" 18 ["told"]) : Ok P w K mg base 1 "product_of" (spProd K) := by
  refine mkOk D sc18 (fun vs H Q E h => ?_) (fun f cdv A outer s H vs Q E hr h => ⟨_, (pss_cons (ps_set (i := 1) sc18.nd rfl (.inl rfl) pe_int)
      (pss_cons (ps_for PassesOwn.never rfl (pi_list (pv 0)) (pg_name (i := 2) sc18.nd rfl (.inl rfl)) (pss_one (ps_aug (i := 1) sc18.nd rfl (.inl rfl) (pv 2) iop_mul)))
      (pss_one (ps_ret (pv 1))))), ?_⟩)
  · obtain ⟨a, b, rfl, _⟩ := h
    rfl
  · obtain ⟨a, r, rfl, hS, hb, hQ⟩ := h
    refine ⟨_, rfl, a, rfl, ⟨_, hS⟩, ?_⟩
    refine for_it walk_list (fun i σ H' => H' = H ∧ ∃ z, σ = [some (.ref a), some (.int (Sc.prod (r.take i) : Nat)), z]) ⟨rfl, none, rfl⟩ (fun i σ H' _ p => by rw [p.1]; exact hS) (fun i x σ H1 H2 hi p y => ?_) (fun σ H' p => ?_)
    · obtain ⟨rfl, z, rfl⟩ := p
      obtain ⟨rfl, hx⟩ := y
      obtain ⟨n, hn, rfl⟩ := rowV_at hx
      have hn2 := hb n (List.mem_of_getElem? hn)
      refine ⟨_, rfl, _, rfl, _, _, rfl, rfl, .inr ⟨by omega, by omega⟩, rfl, some (.int (n : Nat)), ?_⟩
      rw [Sc.take_snoc hn, prod_snoc, Int.natCast_mul]
      rfl
    · obtain ⟨rfl, z, rfl⟩ := p
      rw [rowV_len, List.take_length]
      exact ⟨_, rfl, hQ⟩
abbrev N29 : List Str := ["value", "one"]
theorem sc29 : FnScope N29 ["value"] (defScope (topS 29)) := ⟨rfl, rfl, rfl, by decide +kernel, rfl, by decide +kernel, by decide +kernel⟩
def spNeed (K : PySem.W.Frag) : Sp := fun vs H Q _ => ∃ (t : Addr) (r : List Nat), vs = [.ref t] ∧ H t = some (.tup (rowV r)) ∧ r.length ≤ 1000 ∧ (∀ x ∈ r, 1 ≤ x) ∧ ∀ H', Same H H' → Q .non H'
theorem ok_need (B : Bs mg) (D : Df K mg "need_row" 29 ["value"]) (O7 : Ok P w K mg base 1 "is_int" spIsInt) : Ok P w K mg base 2 "need_row" (spNeed K) := by
  refine mkOk D sc29 (fun vs H Q E h => ?_) (fun f cdv A outer s H vs Q E hr h => ⟨_, (pss_one (ps_if (PW.pt (pw_or (pt_not (pt_val (pe_callB call_isi (by rfl) B.isinstance (by decide +kernel) (pa_cons (pv 0) (pa_cons (pe_bltn (v := .ty "tuple") (by rfl) B.tuple (by decide +kernel) rfl) pa_nil))))) (pw_or1 (pt_not (pt_val (pe_callB (cr_all (by rfl)) (by rfl) B.all (by decide +kernel) (pa_cons (pe_lc (own := [("one", 1)]) (by rfl) sc29.nd (pi_tup (pv 0)) (blkOk_by (own := [("one", 1)]) (N := N29) (sc := defScope (topS 29)) (by decide +kernel)) (fun _ _ _ _ _ => (pg_name (i := 1) sc29.nd rfl (.inl rfl))) (fun _ _ _ _ _ => pts_nil) (fun _ _ _ _ _ => (pe_and (pe_k O7 hr (by decide) (by rfl) (pa_cons (pv 1) pa_nil)) (pe_one (pe_cmpR op_ge (pv 1) pe_int (nomark _)))))) pa_nil))))))) pss_never pss_nil)), ?_⟩)
  · obtain ⟨a, b, rfl, _⟩ := h
    rfl
  · obtain ⟨t, r, rfl, ht, hl, h1, hQ⟩ := h
    refine ⟨_, rfl, _, _, _, _, _, rfl, ClsV.ty _, TyX.base (TyOf.tup ht), kit_ty (by decide +kernel), true, rfl, iteF ?_⟩
    refine ⟨_, rfl, t, rfl, ⟨_, SqT.of ht⟩, fun p np => ?_⟩
    refine lc_vals walk_tup (List.replicate r.length (V.bl true)) (by rw [List.length_replicate, rowV_len]) (by rw [rowV_len]; omega) np (fun H1 s1 => SqT.of (s1 _ _ ht)) (fun i x H1 H2 hi s1 y R hR => ?_) (fun H1 s1 hp => ?_)
    · obtain ⟨rfl, hx⟩ := y
      obtain ⟨n, hn, rfl⟩ := rowV_at hx
      refine ⟨rfl, _, rfl, n, rfl, true, rfl, iteT ?_⟩
      refine ⟨_, rfl, _, _, rfl, rfl, ?_⟩
      refine hR _ _ (Same.refl _) ?_
      show _ = some (V.bl (decide ((1 : Int) ≤ (n : Nat))))
      rw [show decide ((1 : Int) ≤ (n : Nat)) = true from decide_eq_true (by have := h1 n (List.mem_of_getElem? hn); omega)]
      rw [List.getElem?_replicate, if_pos (List.getElem?_eq_some_iff.mp hn).1]
    · refine ⟨p, List.replicate r.length true, rfl, ?_, true, ?_, iteF ?_⟩
      · rw [List.map_replicate]
        exact SqL.of hp
      · show V.bl ((List.replicate r.length true).all id) = V.bl true
        rw [show (List.replicate r.length true).all id = true from List.all_eq_true.mpr fun x hx => List.eq_of_mem_replicate hx]
      · exact hQ H1 s1
end Sd

/-! ScD3 -/
/-! runs_of. -/
namespace Sd
open PySem PySem.Spec PyProof.Rows L2 Sr
variable {P : Program} {w : World} {K : PySem.W.Frag} {mg : Str → Option Value} {base : Heap}
abbrev N10 : List Str := ["word", "known", "found", "letter"]
theorem sc10 : FnScope N10 ["word"] (defScope (topS 10)) := ⟨rfl, rfl, rfl, by decide +kernel, rfl, by decide +kernel, by decide +kernel⟩
def spRuns : Sp := fun vs H Q _ => ∃ l : List Nat, vs = [.str (S l)] ∧ Wd l ∧ l.length ≤ 60 ∧ ∀ H' p, Same H H' → H p = none → TupL runV H' p (Sc.ends Sc.k0 l) → Q (.ref p) H'
theorem ends_small {l u : List Nat} (h : Wd l) (hu : ∀ x ∈ u, x ∈ l) : ∀ e ∈ Sc.ends Sc.k0 u, e.1 ≤ 100 := fun e he => (h _ (hu _ (Sc.ends_mem _ _ _ he))).2
theorem dget_put {H H4 H5 : Hp} {d : Addr} {kvs : List (Key × V)} {x : Nat} {v : V} (e4 : H4 = upd H d (.dK (putK kvs (ck x) v))) (s : Same H4 H5) : DGet H5 d (.str (S [x])) (some v) := by
  have h : H5 d = some (.dK (putK kvs (ck x) v)) := s _ _ (by rw [e4]; exact upd_same)
  have q := DGet.k (k := ck x) h
  rw [valV_put, if_pos rfl] at q
  exact q
theorem last_cases {α : Type} (l : List α) : l = [] ∨ ∃ u x, l = u ++ [x] := by
  rcases List.eq_nil_or_concat l with h | ⟨u, x, h⟩
  · exact .inl h
  · exact .inr ⟨u, x, by rw [h, List.concat_eq_append]⟩
theorem tup_last {H : Hp} {p : Addr} {E : List (Nat × Nat)} {e : Nat × Nat} (h : TupL runV H p (E ++ [e])) : ∃ (vs : List V) (t : Addr), H p = some (.lst (vs ++ [.ref t])) ∧ vs.length = E.length ∧ H t = some (.tup (runV e)) := by
  obtain ⟨ts, h1, h2⟩ := h
  have hl := pt_len h2
  rw [List.length_append, List.length_singleton] at hl
  rcases last_cases ts with rfl | ⟨us, u, rfl⟩
  · simp at hl
  · rw [List.length_append, List.length_singleton] at hl
    obtain ⟨t, e1, e2⟩ := pt_get (i := E.length) (x := e) h2 (by simp)
    have : us.length = E.length := by omega
    rw [← this] at e1
    simp at e1
    subst e1
    exact ⟨us.map V.ref, u, by rw [h1, List.map_append]; rfl, by rw [List.length_map]; omega, e2⟩
theorem ok_runs (B : Bs mg) (D : Df K mg "runs_of" 10 ["word"]) : Ok P w K mg base 1 "runs_of" spRuns := by
  refine mkOk D sc10 (fun vs H Q E h => ?_) (fun f cdv A outer s H vs Q E hr h => ⟨_, (pss_cons (ps_par (i := 1) (j := 2) (by rfl) sc10.nd rfl rfl (by decide) rfl rfl (pa_cons pe_dnewK (pa_cons (pe_lst pa_nil) pa_nil)) (by rfl))
      (pss_cons (ps_for PassesOwn.never rfl (pi_str (pv 0)) (pg_name (i := 3) sc10.nd rfl (.inl rfl)) (pss_cons (ps_dput (hu_of hr) (pv 1) (pv 3) (pe_op op_add (pe_dget2 (hu_of hr) (pv 1) (pv 3) pe_int ⟨by rfl, by rfl, by rfl, by rfl⟩) pe_int) rfl)
      (pss_one (ps_if (PW.pt (pw_and (pt_cmpR (op_neD hr.units) (pv 2) (pe_lst pa_nil) (nomark _)) (pw_and1 (pt_cmpR op_eq (pe_ix ix_tup (pe_ix ix_list (pv 2) (pe_un un_neg pe_int) (fun _ _ => rfl)) pe_int (fun _ _ => rfl)) (pv 3) (nomark _))))) (pss_one (ps_asg (pe_tup (pa_cons (pv 3) (pa_cons (pe_dget (hu_of hr) (pv 1) (pv 3) (fun _ _ => rfl)) pa_nil))) (pg_sub (pv 2) (pe_un un_neg pe_int) set_list))) (pss_one (ps_expr (pe_bm PySem.F.plainAttrs_list PySem.F.slot_list_append PySem.F.type_list_append mt_append (pv 2) (pa_cons (pe_tup (pa_cons (pv 3) (pa_cons (pe_dget (hu_of hr) (pv 1) (pv 3) (fun _ _ => rfl)) pa_nil))) pa_nil))))))))
      (pss_one (ps_ret (pv 2))))), ?_⟩)
  · obtain ⟨a, rfl, _⟩ := h
    rfl
  · obtain ⟨l, rfl, hW, hl, hQ⟩ := h
    refine fun d nd => ?_
    refine ⟨Nat.zero_le _, fun q nq => ⟨_, _, rfl, ?_⟩⟩
    have hqd : d ≠ q := ne_of_none upd_same nq
    have nq0 : H q = none := by
      rw [upd_ne (fun e => hqd e.symm)] at nq
      exact nq
    refine ⟨_, rfl, S l, rfl, ?_⟩
    refine for_it walk_str (fun i σ H' => Same H H' ∧ Cnt H' d (Sc.cn (l.take i)) i ∧ TupL runV H' q (Sc.ends Sc.k0 (l.take i)) ∧ ∃ z, σ = [some (.str (S l)), some (.ref d), some (.ref q), z]) ?_ (fun _ _ _ _ _ => True.intro) (fun i x σ H1 H2 hi p y => ?_) (fun σ H' p => ?_)
    · refine ⟨(same_upd nd).trans (same_upd nq), ?_, TupL.nil, none, rfl⟩
      refine Cnt.of (H := upd H d (.dK [])) Cnt.nil fun o e => ?_
      rw [upd_ne hqd]
      exact e
    · obtain ⟨sm, hC, hT, z, rfl⟩ := p
      obtain ⟨rfl, c, hc, rfl⟩ := y
      have hc := S_at hc
      have hc2 := hW.at hc
      rw [S_size] at hi
      obtain ⟨o, ho, ho2⟩ := hC.get c
      refine ⟨_, rfl, d, rfl, hC.isD, _, rfl, o, ho, _, _, ho2, rfl, _, rfl, _, rfl, ?_⟩
      obtain ⟨H4, hput, hC4, hget, kvs, hk, e4⟩ := hC.put c (Sc.cn (l.take i) c + 1) (by omega)
      refine ⟨d, H4, rfl, hput, ?_⟩
      rw [← Sc.cn_snoc, ← Sc.take_snoc hc] at hC4
      have sm4 : Same H H4 := by
        rw [e4]
        exact same_at sm nd
      have hT4 : TupL runV H4 q (Sc.ends Sc.k0 (l.take i)) := by
        rw [e4]
        exact hT.put (fun e => hqd e.symm) (dk_notup hk)
      have hsn : Sc.ends Sc.k0 (l.take (i + 1)) = Sc.snocR (Sc.ends Sc.k0 (l.take i)) c (Sc.cn (l.take i) c + 1) := by
        rw [Sc.take_snoc hc, Sc.ends_snoc]
        congr 1
        show 0 + ((l.take i).count c + 1) = _
        rw [Nat.zero_add]
        rfl
      have hsh := shaped_runs (ends_small hW (u := l.take i) fun x hx => List.mem_of_mem_take hx)
      have hb := Sc.ends_len (l.take i) Sc.k0
      rw [List.length_take] at hb
      refine ⟨_, rfl, Nat.zero_le _, fun e ne => ?_⟩
      have he4 : Same H4 (upd H4 e (.lst [])) := same_upd ne
      have hen : (upd H4 e (.lst [])) e = some (.lst []) := upd_same
      generalize upd H4 e (.lst []) = H5 at he4 hen ⊢
      have hT5 := hT4.same he4
      have sm5 := sm4.trans he4
      have hC5 := hC4.of (H' := H5) fun o h => he4 _ _ h
      have hget5 : DGet H5 d (.str (S [c])) (some (.int ((Sc.cn (l.take i) c + 1 : Nat) : Int))) := dget_put e4 he4
      have hdk : ∃ kv, H5 d = some (.dK kv) := ⟨_, he4 _ _ (by rw [e4]; exact upd_same)⟩
      have fin : ∀ (t : Addr) (vs : List V) (xs : List (Nat × Nat)), H5 t = none → (upd H5 t (.tup (runV (c, Sc.cn (l.take i) c + 1)))) q = some (.lst vs) → ∀ ws, TupL runV (upd (upd H5 t (.tup (runV (c, Sc.cn (l.take i) c + 1)))) q (.lst ws)) q (Sc.ends Sc.k0 (l.take (i + 1))) → 
          Same H (upd (upd H5 t (.tup (runV (c, Sc.cn (l.take i) c + 1)))) q (.lst ws)) ∧ Cnt (upd (upd H5 t (.tup (runV (c, Sc.cn (l.take i) c + 1)))) q (.lst ws)) d (Sc.cn (l.take (i + 1))) (i + 1) ∧ TupL runV (upd (upd H5 t (.tup (runV (c, Sc.cn (l.take i) c + 1)))) q (.lst ws)) q (Sc.ends Sc.k0 (l.take (i + 1))) := by
        intro t vs xs ht _ ws h
        refine ⟨same_at (sm5.trans (same_upd ht)) nq0, hC5.of fun o e => ?_, h⟩
        rw [upd_ne hqd, upd_ne (ne_of_none e ht)]
        exact e
      rcases last_cases (Sc.ends Sc.k0 (l.take i)) with e0 | ⟨E0, e1, e0⟩
      · rw [e0] at hT5 hsn
        refine ⟨_, _, dp_runs hT5, dp_nil hen, shaped_nil, shaped_nil, false, ?_, iteF (iteF ?_)⟩
        · rw [show runsD [] = PyData.list [] from rfl, eqv_nil]
          rfl
        obtain ⟨vs0, hv0, _⟩ := hT5.seq (K := K)
        refine ⟨_, rfl, .inl ⟨rfl, vs0, SqL.of hv0⟩, ?_⟩
        refine ⟨_, rfl, _, rfl, _, rfl, _, _, rfl, hget5, (by decide : 2 ≤ sizeLine), fun t ht => ?_⟩
        obtain ⟨vs, hv, hvl, hT6⟩ := (hT5.same (same_upd ht)).push (x := (c, Sc.cn (l.take i) c + 1)) (t := t) upd_same
        refine ⟨q, vs, _, rfl, rfl, hv, ?_, ?_⟩
        · rw [hvl, sizeLine_eq]
          show 0 < _
          decide
        · have g := fin t vs [] ht hv (vs ++ [.ref t]) (by rw [hsn]; exact hT6)
          exact ⟨g.1, g.2.1, g.2.2, _, rfl⟩
      · rw [e0] at hT5 hsn hsh hb
        refine ⟨_, _, dp_runs hT5, dp_nil hen, hsh, shaped_nil, true, ?_, iteT ?_⟩
        · unfold runsD
          rw [eqv_nil]
          simp
        obtain ⟨vs0, t0, hv0, hvl0, ht0⟩ := tup_last hT5
        refine ⟨_, rfl, _, rfl, _, _, _, _, rfl, rfl, SqL.of hv0, atI_last _ _, _, _, _, _, rfl, rfl, SqT.of ht0, rfl, _, rfl, rfl, decide (e1.1 = c), ?_, ?_⟩
        · show V.bl (decide (V.str (S [e1.1]) = V.str (S [c]))) = V.bl (decide (e1.1 = c))
          have : (V.str (S [e1.1]) = V.str (S [c])) ↔ e1.1 = c := ⟨fun h => by
            have := S_inj (V.str.inj h)
            simpa using this, fun h => by rw [h]⟩
          simp only [this]
        by_cases hc1 : e1.1 = c
        · rw [decide_eq_true hc1]
          refine iteT ?_
          refine ⟨_, rfl, _, rfl, _, rfl, _, _, rfl, hget5, (by decide : 2 ≤ sizeLine), fun t ht => ?_⟩
          obtain ⟨vs, hv, hvl, hT6⟩ := (hT5.same (same_upd ht)).setLast (x := (c, Sc.cn (l.take i) c + 1)) (t := t) upd_same
          refine ⟨_, rfl, _, rfl, q, vs, _, E0.length, rfl, rfl, hv, ?_, ?_⟩
          · rw [hvl]
            unfold ixN
            rw [if_neg (by omega), if_pos (by omega)]
            congr 1
            omega
          · have g := fin t vs [] ht hv (vs.set E0.length (.ref t)) (by rw [hsn, Sc.snocR_last, if_pos hc1]; exact hT6)
            exact ⟨g.1, g.2.1, g.2.2, _, rfl⟩
        · rw [decide_eq_false hc1]
          refine iteF ?_
          refine ⟨_, rfl, .inl ⟨rfl, _, SqL.of hv0⟩, ?_⟩
          refine ⟨_, rfl, _, rfl, _, rfl, _, _, rfl, hget5, (by decide : 2 ≤ sizeLine), fun t ht => ?_⟩
          obtain ⟨vs, hv, hvl, hT6⟩ := (hT5.same (same_upd ht)).push (x := (c, Sc.cn (l.take i) c + 1)) (t := t) upd_same
          refine ⟨q, vs, _, rfl, rfl, hv, ?_, ?_⟩
          · rw [hvl, sizeLine_eq]
            omega
          · have g := fin t vs [] ht hv (vs ++ [.ref t]) (by rw [hsn, Sc.snocR_last, if_neg hc1]; exact hT6)
            exact ⟨g.1, g.2.1, g.2.2, _, rfl⟩
    · obtain ⟨sm, hC, hT, z, rfl⟩ := p
      rw [S_size, List.take_length] at hT
      exact ⟨_, rfl, hQ _ q sm nq0 hT⟩
end Sd

/-! ScD4 -/
/-! Marks, cores and gaps: the program's defs and the law's. -/
namespace Sd
open PySem PySem.Spec PyProof.Rows L2 Sr
variable {P : Program} {w : World} {K : PySem.W.Frag} {mg : Str → Option Value} {base : Heap}
def spMarks : Sp := fun vs H Q _ => ∃ l : List Nat, vs = [.str (S l)] ∧ Wd l ∧ l.length ≤ 60 ∧ ∀ H' p, Same H H' → H p = none → H' p = some (.lst (rowV (Sc.marks l))) → Q (.ref p) H'
def spGaps : Sp := fun vs H Q _ => ∃ l : List Nat, vs = [.str (S l)] ∧ Wd l ∧ l.length ≤ 60 ∧ ∀ H' p, Same H H' → H p = none → H' p = some (.lst (rowV (Sc.gaps l))) → Q (.ref p) H'
def spCore : Sp := fun vs H Q _ => ∃ l : List Nat, vs = [.str (S l)] ∧ Wd l ∧ l.length ≤ 60 ∧ ∀ H', Same H H' → Q (.str (S (Sc.core l))) H'
/-- runs made a word -/
def spMade : Sp := fun vs H Q _ => ∃ (p : Addr) (L : List (Nat × Nat)), vs = [.ref p] ∧ TupL runV H p L ∧ L.length ≤ 60 ∧ (∀ e ∈ L, e.2 ≤ 1000) ∧ (Sc.made Sc.k0 L).length ≤ 1000 ∧ ∀ H', Same H H' → Q (.str (S (Sc.made Sc.k0 L))) H'
theorem marks_le {l : List Nat} {c : Nat} (h : c ∈ Sc.marks l) : c ≤ l.length := by
  rcases Sc.mk_mem.mp h with e | e
  · omega
  · obtain ⟨r, hr, rfl⟩ := List.mem_map.mp e
    exact Sc.ends_le0 hr
theorem filter_len_le {α : Type} (p : α → Bool) (l : List α) : (l.filter p).length ≤ l.length := List.length_filter_le p l
theorem range_foldr {cs : List Nat} {B : Nat} (h : ∀ c ∈ cs, c ≤ B) : cs.foldr max 0 ≤ B := by
  induction cs with
  | nil => exact Nat.zero_le _
  | cons c cs ih =>
    have h1 := h c List.mem_cons_self
    have h2 := ih fun x hx => h x (List.mem_cons_of_mem _ hx)
    show max c (cs.foldr max 0) ≤ B
    omega
theorem marks_len (l : List Nat) : (Sc.marks l).length ≤ l.length + 1 := by
  unfold Sc.marks Sc.mk
  refine Nat.le_trans (filter_len_le _ _) ?_
  rw [List.length_range]
  have := range_foldr (cs := Sc.cnts (Sc.ends Sc.k0 l)) (B := l.length) fun c hc => by
    obtain ⟨r, hr, rfl⟩ := List.mem_map.mp hc
    exact Sc.ends_le0 hr
  omega
abbrev N11 : List Str := ["word", "letter", "count"]
theorem sc11 : FnScope N11 ["word"] (defScope (topS 11)) := ⟨rfl, rfl, rfl, by decide +kernel, rfl, by decide +kernel, by decide +kernel⟩
theorem ok_11 (B : Bs mg) (D : Df K mg "marks_of" 11 ["word"]) (O10 : Ok P w K mg base 1 "runs_of" spRuns) : Ok P w K mg base 2 "marks_of" spMarks := by
  refine mkOk D sc11 (fun vs H Q E h => ?_) (fun f cdv A outer s H vs Q E hr h => ⟨_, (pss_one (ps_ret (pe_callB (cr_sortedSet (by rfl)) (by rfl) B.sorted (by decide +kernel) (pa_cons (pe_callTy (cr_setL (by rfl)) (by rfl) B.set (by decide +kernel) (pa_cons (pe_op op_cat (pe_lst (pa_cons pe_int pa_nil)) (pe_lc (own := [("letter", 1), ("count", 2)]) (by rfl) sc11.nd (pi_list (pe_k O10 hr (by decide) (by rfl) (pa_cons (pv 0) pa_nil))) (blkOk_by (own := [("letter", 1), ("count", 2)]) (N := N11) (sc := defScope (topS 11)) (by decide +kernel)) (fun _ _ _ _ _ => (pg_tupK K 2 rfl rfl (pgs_cons (pg_name (i := 1) sc11.nd rfl (.inl rfl)) (pgs_cons (pg_name (i := 2) sc11.nd rfl (.inl rfl)) pgs_nil)))) (fun _ _ _ _ _ => pts_nil) (fun _ _ _ _ _ => (pv 2)))) pa_nil)) pa_nil)))), ?_⟩)
  · obtain ⟨a, rfl, _⟩ := h
    rfl
  · obtain ⟨l, rfl, hW, hl, hQ⟩ := h
    have hel := Sc.ends_len l Sc.k0
    refine ⟨(by decide : 1 ≤ sizeLine), fun z nz => ⟨_, rfl, l, rfl, hW, hl, fun H2 p s2 np hT => ?_⟩⟩
    obtain ⟨vs, hv, hvl, hSq, hAt⟩ := hT.seq (K := K)
    refine ⟨p, rfl, ⟨_, hSq⟩, fun D nD => ?_⟩
    refine lc_vals walk_list (rowV (Sc.cnts (Sc.ends Sc.k0 l))) ?_ ?_ nD (fun H1 s1 => s1.seq hSq) (fun i x H1 H3 hi s1 y R hR => ?_) (fun H3 s3 hD => ?_)
    · rw [rowV_len, hvl]
      exact List.length_map _
    · rw [hvl]
      omega
    · obtain ⟨rfl, hx⟩ := y
      rw [hvl] at hi
      obtain ⟨t, ht, hto⟩ := hAt i _ (List.getElem?_eq_getElem hi)
      rw [ht] at hx
      cases hx
      refine ⟨t, _, rfl, SqT.of (s1 _ _ hto), rfl, _, _, rfl, _, _, rfl, rfl, rfl, _, rfl, hR _ _ (Same.refl _) ?_⟩
      refine rowV_get ?_
      show ((Sc.ends Sc.k0 l).map (·.2))[i]? = _
      rw [List.getElem?_map, List.getElem?_eq_getElem hi]
      rfl
    · have hz : H3 z = some (.lst [.int 0]) := s3 _ _ (s2 _ _ upd_same)
      have s03 : Same H H3 := ((same_upd nz).trans s2).trans s3
      refine ⟨_, _, _, _, rfl, rfl, hz, hD, ?_, fun q nq => ?_⟩
      · rw [rowV_len, sizeLine_eq]
        show 1 + ((Sc.ends Sc.k0 l).map (·.2)).length ≤ _
        rw [List.length_map]
        omega
      have e0 : ([.int 0] ++ rowV (Sc.cnts (Sc.ends Sc.k0 l)) : List V) = ((0 : Int) :: (Sc.cnts (Sc.ends Sc.k0 l)).map fun (c : Nat) => (c : Int)).map V.int := by
        rw [List.map_cons, ← rowV_int]
        rfl
      have hcl : (Sc.cnts (Sc.ends Sc.k0 l)).length = (Sc.ends Sc.k0 l).length := List.length_map _
      refine ⟨q, _, rfl, SqL.of (by rw [upd_same, e0]), ?_, fun u c nu hc => ?_⟩
      · rw [List.length_cons, List.length_map, hcl]
        unfold scanBound
        omega
      rw [List.length_cons, List.length_map, hcl] at hc
      refine ⟨u, _, _, rfl, upd_same, by omega, fun ns g hp hm _ ng => ?_⟩
      refine hQ _ g ((s03.trans (same_upd nq)).trans ((same_upd nu).trans (same_upd ng))) ?_ ?_
      · exact (((s03.trans (same_upd nq)).trans (same_upd nu))).free ng
      · rw [upd_same, marks_of_ints hp fun k => (hm k).trans decide_eq_true_iff]
        rfl
abbrev N37 : List Str := ["_law_word_here", "_law_letter", "_law_count"]
theorem sc37 : FnScope N37 ["_law_word_here"] (defScope (topS 37)) := ⟨rfl, rfl, rfl, by decide +kernel, rfl, by decide +kernel, by decide +kernel⟩
theorem ok_37 (B : Bs mg) (D : Df K mg "_law_marks" 37 ["_law_word_here"]) (O36 : Ok P w K mg base 1 "_law_ends" spRuns) : Ok P w K mg base 2 "_law_marks" spMarks := by
  refine mkOk D sc37 (fun vs H Q E h => ?_) (fun f cdv A outer s H vs Q E hr h => ⟨_, (pss_one (ps_ret (pe_callB (cr_sortedSet (by rfl)) (by rfl) B.sorted (by decide +kernel) (pa_cons (pe_callTy (cr_setL (by rfl)) (by rfl) B.set (by decide +kernel) (pa_cons (pe_op op_cat (pe_lst (pa_cons pe_int pa_nil)) (pe_lc (own := [("_law_letter", 1), ("_law_count", 2)]) (by rfl) sc37.nd (pi_list (pe_k O36 hr (by decide) (by rfl) (pa_cons (pv 0) pa_nil))) (blkOk_by (own := [("_law_letter", 1), ("_law_count", 2)]) (N := N37) (sc := defScope (topS 37)) (by decide +kernel)) (fun _ _ _ _ _ => (pg_tupK K 2 rfl rfl (pgs_cons (pg_name (i := 1) sc37.nd rfl (.inl rfl)) (pgs_cons (pg_name (i := 2) sc37.nd rfl (.inl rfl)) pgs_nil)))) (fun _ _ _ _ _ => pts_nil) (fun _ _ _ _ _ => (pv 2)))) pa_nil)) pa_nil)))), ?_⟩)
  · obtain ⟨a, rfl, _⟩ := h
    rfl
  · obtain ⟨l, rfl, hW, hl, hQ⟩ := h
    have hel := Sc.ends_len l Sc.k0
    refine ⟨(by decide : 1 ≤ sizeLine), fun z nz => ⟨_, rfl, l, rfl, hW, hl, fun H2 p s2 np hT => ?_⟩⟩
    obtain ⟨vs, hv, hvl, hSq, hAt⟩ := hT.seq (K := K)
    refine ⟨p, rfl, ⟨_, hSq⟩, fun D nD => ?_⟩
    refine lc_vals walk_list (rowV (Sc.cnts (Sc.ends Sc.k0 l))) ?_ ?_ nD (fun H1 s1 => s1.seq hSq) (fun i x H1 H3 hi s1 y R hR => ?_) (fun H3 s3 hD => ?_)
    · rw [rowV_len, hvl]
      exact List.length_map _
    · rw [hvl]
      omega
    · obtain ⟨rfl, hx⟩ := y
      rw [hvl] at hi
      obtain ⟨t, ht, hto⟩ := hAt i _ (List.getElem?_eq_getElem hi)
      rw [ht] at hx
      cases hx
      refine ⟨t, _, rfl, SqT.of (s1 _ _ hto), rfl, _, _, rfl, _, _, rfl, rfl, rfl, _, rfl, hR _ _ (Same.refl _) ?_⟩
      refine rowV_get ?_
      show ((Sc.ends Sc.k0 l).map (·.2))[i]? = _
      rw [List.getElem?_map, List.getElem?_eq_getElem hi]
      rfl
    · have hz : H3 z = some (.lst [.int 0]) := s3 _ _ (s2 _ _ upd_same)
      have s03 : Same H H3 := ((same_upd nz).trans s2).trans s3
      refine ⟨_, _, _, _, rfl, rfl, hz, hD, ?_, fun q nq => ?_⟩
      · rw [rowV_len, sizeLine_eq]
        show 1 + ((Sc.ends Sc.k0 l).map (·.2)).length ≤ _
        rw [List.length_map]
        omega
      have e0 : ([.int 0] ++ rowV (Sc.cnts (Sc.ends Sc.k0 l)) : List V) = ((0 : Int) :: (Sc.cnts (Sc.ends Sc.k0 l)).map fun (c : Nat) => (c : Int)).map V.int := by
        rw [List.map_cons, ← rowV_int]
        rfl
      have hcl : (Sc.cnts (Sc.ends Sc.k0 l)).length = (Sc.ends Sc.k0 l).length := List.length_map _
      refine ⟨q, _, rfl, SqL.of (by rw [upd_same, e0]), ?_, fun u c nu hc => ?_⟩
      · rw [List.length_cons, List.length_map, hcl]
        unfold scanBound
        omega
      rw [List.length_cons, List.length_map, hcl] at hc
      refine ⟨u, _, _, rfl, upd_same, by omega, fun ns g hp hm _ ng => ?_⟩
      refine hQ _ g ((s03.trans (same_upd nq)).trans ((same_upd nu).trans (same_upd ng))) ?_ ?_
      · exact (((s03.trans (same_upd nq)).trans (same_upd nu))).free ng
      · rw [upd_same, marks_of_ints hp fun k => (hm k).trans decide_eq_true_iff]
        rfl
abbrev N13 : List Str := ["word", "marks", "letter", "count"]
theorem sc13 : FnScope N13 ["word"] (defScope (topS 13)) := ⟨rfl, rfl, rfl, by decide +kernel, rfl, by decide +kernel, by decide +kernel⟩
theorem ok_13 (B : Bs mg) (D : Df K mg "core_of" 13 ["word"]) (O10 : Ok P w K mg base 1 "runs_of" spRuns) (O11 : Ok P w K mg base 2 "marks_of" spMarks) (O12 : Ok P w K mg base 1 "word_of" spMade) : Ok P w K mg base 3 "core_of" spCore := by
  refine mkOk D sc13 (fun vs H Q E h => ?_) (fun f cdv A outer s H vs Q E hr h => ⟨_, (pss_cons (ps_set (i := 1) sc13.nd rfl (.inr rfl) (pe_k O11 hr (by decide) (by rfl) (pa_cons (pv 0) pa_nil)))
      (pss_one (ps_ret (pe_k O12 hr (by decide) (by rfl) (pa_cons (pe_lc (own := [("letter", 2), ("count", 3)]) (by rfl) sc13.nd (pi_list (pe_k O10 hr (by decide) (by rfl) (pa_cons (pv 0) pa_nil))) (blkOk_by (own := [("letter", 2), ("count", 3)]) (N := N13) (sc := defScope (topS 13)) (by decide +kernel)) (fun _ _ _ _ _ => (pg_tupK K 2 rfl rfl (pgs_cons (pg_name (i := 2) sc13.nd rfl (.inl rfl)) (pgs_cons (pg_name (i := 3) sc13.nd rfl (.inl rfl)) pgs_nil)))) (fun _ _ _ _ _ => pts_nil) (fun _ _ _ _ _ => (pe_tup (pa_cons (pv 2) (pa_cons (pe_bmK K rfl PySem.F.plainAttrs_list PySem.F.slot_list_index PySem.F.type_list_index (mt_indexK K rfl) (pv 1) (pa_cons (pv 3) pa_nil)) pa_nil))))) pa_nil))))), ?_⟩)
  · obtain ⟨a, rfl, _⟩ := h
    rfl
  · obtain ⟨l, rfl, hW, hl, hQ⟩ := h
    have hel := Sc.ends_len l Sc.k0
    refine ⟨_, rfl, l, rfl, hW, hl, fun H1 m s1 nm hm => ?_⟩
    refine ⟨_, rfl, l, rfl, hW, hl, fun H2 p s2 np hT => ?_⟩
    obtain ⟨vs, hv, hvl, hSq, hAt⟩ := hT.seq (K := K)
    refine ⟨p, rfl, ⟨_, hSq⟩, fun D nD => ?_⟩
    refine lc_tups walk_list runV (Sc.mapc (Sc.rank l) (Sc.ends Sc.k0 l)) ?_ ?_ nD (fun H3 s3 => s3.seq hSq) (fun i x H3 H4 hi s3 y R hR => ?_) (fun H3 s3 hD => ?_)
    · rw [hvl]
      exact List.length_map _
    · rw [hvl]
      omega
    · obtain ⟨rfl, hx⟩ := y
      rw [hvl] at hi
      obtain ⟨t, ht, hto⟩ := hAt i _ (List.getElem?_eq_getElem hi)
      rw [ht] at hx
      cases hx
      have hme : ((Sc.ends Sc.k0 l)[i]).2 ∈ Sc.marks l := Sc.mem_marks (List.getElem_mem hi)
      have hfa := first_at hme
      have hm4 : SqL K H4 m (rowV (Sc.marks l)) := SqL.of (s3 _ _ (s2 _ _ hm))
      refine ⟨t, _, rfl, SqT.of (s3 _ _ hto), rfl, _, _, rfl, _, _, rfl, rfl, rfl, _, rfl, _, rfl, .inl ⟨rfl, _, hm4⟩, _, rfl, ?_⟩
      refine ⟨m, _, _, _, _, rfl, rfl, hm4, rfl, flat_row _, hfa.1, ?_, hfa.2, (by decide : 2 ≤ sizeLine), fun u nu => ?_⟩
      · rw [eqV_int, decide_eq_true rfl]
      refine hR u _ (((Sc.ends Sc.k0 l)[i]).1, Sc.rank l ((Sc.ends Sc.k0 l)[i]).2) (same_upd nu) ?_ upd_same
      unfold Sc.mapc
      rw [List.getElem?_map, List.getElem?_eq_getElem hi]
      rfl
    · refine ⟨D, _, rfl, hD, ?_, ?_, ?_, fun H5 s5 => hQ H5 (s1.trans (s2.trans (s3.trans s5)))⟩
      · show (List.map _ _).length ≤ 60
        rw [List.length_map]
        omega
      · intro e he
        obtain ⟨r, hr, rfl⟩ := List.mem_map.mp he
        have h1 : Sc.rank l r.2 < (Sc.marks l).length := List.idxOf_lt_length_iff.mpr (Sc.mem_marks hr)
        have := marks_len l
        show Sc.rank l r.2 ≤ 1000
        omega
      · have := Sc.core_len l
        show (Sc.core l).length ≤ 1000
        omega
abbrev N39 : List Str := ["_law_word_here", "_law_ranks", "_law_letter", "_law_count"]
theorem sc39 : FnScope N39 ["_law_word_here"] (defScope (topS 39)) := ⟨rfl, rfl, rfl, by decide +kernel, rfl, by decide +kernel, by decide +kernel⟩
theorem ok_39 (B : Bs mg) (D : Df K mg "_law_core" 39 ["_law_word_here"]) (O36 : Ok P w K mg base 1 "_law_ends" spRuns) (O37 : Ok P w K mg base 2 "_law_marks" spMarks) (O38 : Ok P w K mg base 1 "_law_made" spMade) : Ok P w K mg base 3 "_law_core" spCore := by
  refine mkOk D sc39 (fun vs H Q E h => ?_) (fun f cdv A outer s H vs Q E hr h => ⟨_, (pss_cons (ps_set (i := 1) sc39.nd rfl (.inr rfl) (pe_k O37 hr (by decide) (by rfl) (pa_cons (pv 0) pa_nil)))
      (pss_one (ps_ret (pe_k O38 hr (by decide) (by rfl) (pa_cons (pe_lc (own := [("_law_letter", 2), ("_law_count", 3)]) (by rfl) sc39.nd (pi_list (pe_k O36 hr (by decide) (by rfl) (pa_cons (pv 0) pa_nil))) (blkOk_by (own := [("_law_letter", 2), ("_law_count", 3)]) (N := N39) (sc := defScope (topS 39)) (by decide +kernel)) (fun _ _ _ _ _ => (pg_tupK K 2 rfl rfl (pgs_cons (pg_name (i := 2) sc39.nd rfl (.inl rfl)) (pgs_cons (pg_name (i := 3) sc39.nd rfl (.inl rfl)) pgs_nil)))) (fun _ _ _ _ _ => pts_nil) (fun _ _ _ _ _ => (pe_tup (pa_cons (pv 2) (pa_cons (pe_bmK K rfl PySem.F.plainAttrs_list PySem.F.slot_list_index PySem.F.type_list_index (mt_indexK K rfl) (pv 1) (pa_cons (pv 3) pa_nil)) pa_nil))))) pa_nil))))), ?_⟩)
  · obtain ⟨a, rfl, _⟩ := h
    rfl
  · obtain ⟨l, rfl, hW, hl, hQ⟩ := h
    have hel := Sc.ends_len l Sc.k0
    refine ⟨_, rfl, l, rfl, hW, hl, fun H1 m s1 nm hm => ?_⟩
    refine ⟨_, rfl, l, rfl, hW, hl, fun H2 p s2 np hT => ?_⟩
    obtain ⟨vs, hv, hvl, hSq, hAt⟩ := hT.seq (K := K)
    refine ⟨p, rfl, ⟨_, hSq⟩, fun D nD => ?_⟩
    refine lc_tups walk_list runV (Sc.mapc (Sc.rank l) (Sc.ends Sc.k0 l)) ?_ ?_ nD (fun H3 s3 => s3.seq hSq) (fun i x H3 H4 hi s3 y R hR => ?_) (fun H3 s3 hD => ?_)
    · rw [hvl]
      exact List.length_map _
    · rw [hvl]
      omega
    · obtain ⟨rfl, hx⟩ := y
      rw [hvl] at hi
      obtain ⟨t, ht, hto⟩ := hAt i _ (List.getElem?_eq_getElem hi)
      rw [ht] at hx
      cases hx
      have hme : ((Sc.ends Sc.k0 l)[i]).2 ∈ Sc.marks l := Sc.mem_marks (List.getElem_mem hi)
      have hfa := first_at hme
      have hm4 : SqL K H4 m (rowV (Sc.marks l)) := SqL.of (s3 _ _ (s2 _ _ hm))
      refine ⟨t, _, rfl, SqT.of (s3 _ _ hto), rfl, _, _, rfl, _, _, rfl, rfl, rfl, _, rfl, _, rfl, .inl ⟨rfl, _, hm4⟩, _, rfl, ?_⟩
      refine ⟨m, _, _, _, _, rfl, rfl, hm4, rfl, flat_row _, hfa.1, ?_, hfa.2, (by decide : 2 ≤ sizeLine), fun u nu => ?_⟩
      · rw [eqV_int, decide_eq_true rfl]
      refine hR u _ (((Sc.ends Sc.k0 l)[i]).1, Sc.rank l ((Sc.ends Sc.k0 l)[i]).2) (same_upd nu) ?_ upd_same
      unfold Sc.mapc
      rw [List.getElem?_map, List.getElem?_eq_getElem hi]
      rfl
    · refine ⟨D, _, rfl, hD, ?_, ?_, ?_, fun H5 s5 => hQ H5 (s1.trans (s2.trans (s3.trans s5)))⟩
      · show (List.map _ _).length ≤ 60
        rw [List.length_map]
        omega
      · intro e he
        obtain ⟨r, hr, rfl⟩ := List.mem_map.mp he
        have h1 : Sc.rank l r.2 < (Sc.marks l).length := List.idxOf_lt_length_iff.mpr (Sc.mem_marks hr)
        have := marks_len l
        show Sc.rank l r.2 ≤ 1000
        omega
      · have := Sc.core_len l
        show (Sc.core l).length ≤ 1000
        omega
abbrev N14 : List Str := ["word", "marks", "at"]
theorem sc14 : FnScope N14 ["word"] (defScope (topS 14)) := ⟨rfl, rfl, rfl, by decide +kernel, rfl, by decide +kernel, by decide +kernel⟩
theorem ok_14 (B : Bs mg) (D : Df K mg "gaps_of" 14 ["word"]) (O11 : Ok P w K mg base 2 "marks_of" spMarks) : Ok P w K mg base 3 "gaps_of" spGaps := by
  refine mkOk D sc14 (fun vs H Q E h => ?_) (fun f cdv A outer s H vs Q E hr h => ⟨_, (pss_cons (ps_set (i := 1) sc14.nd rfl (.inr rfl) (pe_k O11 hr (by decide) (by rfl) (pa_cons (pv 0) pa_nil)))
      (pss_one (ps_ret (pe_lc (own := [("at", 2)]) (by rfl) sc14.nd (pi_range2 (by rfl) B.range (pa_cons pe_int (pa_cons (pe_callB call_len_seq (by rfl) B.len (by decide +kernel) (pa_cons (pv 1) pa_nil)) pa_nil))) (blkOk_by (own := [("at", 2)]) (N := N14) (sc := defScope (topS 14)) (by decide +kernel)) (fun _ _ _ _ _ => (pg_name (i := 2) sc14.nd rfl (.inl rfl))) (fun _ _ _ _ _ => pts_nil) (fun _ _ _ _ _ => (pe_op op_sub (pe_ix (ix_listK K rfl) (pv 1) (pv 2) (fun _ _ => rfl)) (pe_ix (ix_listK K rfl) (pv 1) (pe_op op_sub (pv 2) pe_int) (fun _ _ => rfl)))))))), ?_⟩)
  · obtain ⟨a, rfl, _⟩ := h
    rfl
  · obtain ⟨l, rfl, hW, hl, hQ⟩ := h
    have hml := marks_len l
    refine ⟨_, rfl, l, rfl, hW, hl, fun H1 m s1 nm hm => ?_⟩
    refine ⟨_, rfl, m, _, rfl, .inl (SqL.of hm), 1, _, rfl, ⟨by omega, by omega, by omega, by rw [rowV_len]; omega⟩, fun D nD => ?_⟩
    refine lc_vals walk_range (rowV (Sc.gaps l)) ?_ ?_ nD (fun H3 s3 => True.intro) (fun i x H3 H4 hi s3 y R hR => ?_) (fun H3 s3 hD => ?_)
    · rw [rowV_len, rowV_len, Sc.gaps_len]
      omega
    · rw [rowV_len]
      omega
    · obtain ⟨rfl, rfl⟩ := y
      rw [rowV_len] at hi
      have h1 : i + 1 < (Sc.marks l).length := by omega
      have h0 : i < (Sc.marks l).length := by omega
      have g0 := List.getElem?_eq_getElem h0
      have g1 := List.getElem?_eq_getElem h1
      have hlt := Sc.asc_lt (Sc.marks_asc l) g0 g1 (by omega)
      have hm4 : SqL K H4 m (rowV (Sc.marks l)) := SqL.of (s3 _ _ hm)
      have a1 : atI (rowV (Sc.marks l)) ((1 : Int) + (i : Nat)) = some (.int ((Sc.marks l)[i + 1] : Nat)) := by
        rw [show ((1 : Int) + (i : Nat)) = ((i + 1 : Nat) : Int) by omega]
        exact atI_nat (rowV_get g1)
      have a0 : atI (rowV (Sc.marks l)) ((1 : Int) + (i : Nat) - 1) = some (.int ((Sc.marks l)[i] : Nat)) := by
        rw [show ((1 : Int) + (i : Nat) - 1) = ((i : Nat) : Int) by omega]
        exact atI_nat (rowV_get g0)
      refine ⟨rfl, _, rfl, _, rfl, m, _, _, _, rfl, rfl, hm4, a1, _, rfl, _, rfl, _, _, rfl, rfl, m, _, _, _, rfl, rfl, hm4, a0, _, _, rfl, rfl, ?_⟩
      · refine hR _ _ (Same.refl _) ?_
        rw [show (rowV (Sc.gaps l))[i]? = _ from rowV_get (Sc.diffs_get _ _ _ _ g0 g1), Int.natCast_sub (by omega)]
    · exact hQ H3 D (s1.trans s3) (s1.free nD) hD
abbrev N40 : List Str := ["_law_word_here", "_law_ranks", "_law_at"]
theorem sc40 : FnScope N40 ["_law_word_here"] (defScope (topS 40)) := ⟨rfl, rfl, rfl, by decide +kernel, rfl, by decide +kernel, by decide +kernel⟩
theorem ok_40 (B : Bs mg) (D : Df K mg "_law_gaps" 40 ["_law_word_here"]) (O37 : Ok P w K mg base 2 "_law_marks" spMarks) : Ok P w K mg base 3 "_law_gaps" spGaps := by
  refine mkOk D sc40 (fun vs H Q E h => ?_) (fun f cdv A outer s H vs Q E hr h => ⟨_, (pss_cons (ps_set (i := 1) sc40.nd rfl (.inr rfl) (pe_k O37 hr (by decide) (by rfl) (pa_cons (pv 0) pa_nil)))
      (pss_one (ps_ret (pe_lc (own := [("_law_at", 2)]) (by rfl) sc40.nd (pi_range2 (by rfl) B.range (pa_cons pe_int (pa_cons (pe_callB call_len_seq (by rfl) B.len (by decide +kernel) (pa_cons (pv 1) pa_nil)) pa_nil))) (blkOk_by (own := [("_law_at", 2)]) (N := N40) (sc := defScope (topS 40)) (by decide +kernel)) (fun _ _ _ _ _ => (pg_name (i := 2) sc40.nd rfl (.inl rfl))) (fun _ _ _ _ _ => pts_nil) (fun _ _ _ _ _ => (pe_op op_sub (pe_ix (ix_listK K rfl) (pv 1) (pv 2) (fun _ _ => rfl)) (pe_ix (ix_listK K rfl) (pv 1) (pe_op op_sub (pv 2) pe_int) (fun _ _ => rfl)))))))), ?_⟩)
  · obtain ⟨a, rfl, _⟩ := h
    rfl
  · obtain ⟨l, rfl, hW, hl, hQ⟩ := h
    have hml := marks_len l
    refine ⟨_, rfl, l, rfl, hW, hl, fun H1 m s1 nm hm => ?_⟩
    refine ⟨_, rfl, m, _, rfl, .inl (SqL.of hm), 1, _, rfl, ⟨by omega, by omega, by omega, by rw [rowV_len]; omega⟩, fun D nD => ?_⟩
    refine lc_vals walk_range (rowV (Sc.gaps l)) ?_ ?_ nD (fun H3 s3 => True.intro) (fun i x H3 H4 hi s3 y R hR => ?_) (fun H3 s3 hD => ?_)
    · rw [rowV_len, rowV_len, Sc.gaps_len]
      omega
    · rw [rowV_len]
      omega
    · obtain ⟨rfl, rfl⟩ := y
      rw [rowV_len] at hi
      have h1 : i + 1 < (Sc.marks l).length := by omega
      have h0 : i < (Sc.marks l).length := by omega
      have g0 := List.getElem?_eq_getElem h0
      have g1 := List.getElem?_eq_getElem h1
      have hlt := Sc.asc_lt (Sc.marks_asc l) g0 g1 (by omega)
      have hm4 : SqL K H4 m (rowV (Sc.marks l)) := SqL.of (s3 _ _ hm)
      have a1 : atI (rowV (Sc.marks l)) ((1 : Int) + (i : Nat)) = some (.int ((Sc.marks l)[i + 1] : Nat)) := by
        rw [show ((1 : Int) + (i : Nat)) = ((i + 1 : Nat) : Int) by omega]
        exact atI_nat (rowV_get g1)
      have a0 : atI (rowV (Sc.marks l)) ((1 : Int) + (i : Nat) - 1) = some (.int ((Sc.marks l)[i] : Nat)) := by
        rw [show ((1 : Int) + (i : Nat) - 1) = ((i : Nat) : Int) by omega]
        exact atI_nat (rowV_get g0)
      refine ⟨rfl, _, rfl, _, rfl, m, _, _, _, rfl, rfl, hm4, a1, _, rfl, _, rfl, _, _, rfl, rfl, m, _, _, _, rfl, rfl, hm4, a0, _, _, rfl, rfl, ?_⟩
      · refine hR _ _ (Same.refl _) ?_
        rw [show (rowV (Sc.gaps l))[i]? = _ from rowV_get (Sc.diffs_get _ _ _ _ g0 g1), Int.natCast_sub (by omega)]
    · exact hQ H3 D (s1.trans s3) (s1.free nD) hD
end Sd

/-! ScD5 -/
/-! word_of, and the law's made, ends, grown. -/
namespace Sd
open PySem PySem.Spec PyProof.Rows L2 Sr
variable {P : Program} {w : World} {K : PySem.W.Frag} {mg : Str → Option Value} {base : Heap}
theorem fresh_two {H : Hp} {d q : Addr} {o : HO} (nq : upd H d o q = none) : d ≠ q ∧ H q = none := by
  have h : d ≠ q := ne_of_none upd_same nq
  refine ⟨h, ?_⟩
  rw [upd_ne (fun e => h e.symm)] at nq
  exact nq
abbrev N12 : List Str := ["runs", "known", "found", "letter", "count"]
theorem sc12 : FnScope N12 ["runs"] (defScope (topS 12)) := ⟨rfl, rfl, rfl, by decide +kernel, rfl, by decide +kernel, by decide +kernel⟩
theorem ok_wordof (B : Bs mg) (D : Df K mg "word_of" 12 ["runs"]) : Ok P w K mg base 1 "word_of" spMade := by
  refine mkOk D sc12 (fun vs H Q E h => ?_) (fun f cdv A outer s H vs Q E hr h => ⟨_, (pss_cons (ps_par (i := 1) (j := 2) (by rfl) sc12.nd rfl rfl (by decide) rfl rfl (pa_cons pe_dnewK (pa_cons (pe_lst pa_nil) pa_nil)) (by rfl))
      (pss_cons (ps_for PassesOwn.never rfl (pi_list (pv 0)) (pg_tup (by rfl) (pgs_cons (pg_name (i := 3) sc12.nd rfl (.inl rfl)) (pgs_cons (pg_name (i := 4) sc12.nd rfl (.inl rfl)) pgs_nil))) (pss_cons (ps_expr (pe_bm PySem.F.plainAttrs_list PySem.F.slot_list_append PySem.F.type_list_append mt_append (pv 2) (pa_cons (pe_op op_mulS (pv 3) (pe_op op_sub (pv 4) (pe_dget2 (hu_of hr) (pv 1) (pv 3) pe_int ⟨by rfl, by rfl, by rfl, by rfl⟩))) pa_nil)))
      (pss_one (ps_dput (hu_of hr) (pv 1) (pv 3) (pv 4) rfl))))
      (pss_one (ps_ret (pe_join pe_str (pv 2)))))), ?_⟩)
  · obtain ⟨a, _, rfl, _⟩ := h
    rfl
  · obtain ⟨p, L, rfl, hT, hl, hL, hm, hQ⟩ := h
    refine fun d nd => ⟨Nat.zero_le _, fun q nq => ⟨_, _, rfl, ?_⟩⟩
    obtain ⟨hqd, nq0⟩ := fresh_two nq
    have s0 : Same H (upd (upd H d (.dK [])) q (.lst [])) := (same_upd nd).trans (same_upd nq)
    obtain ⟨vs, hv, hvl, hSq, hAt⟩ := hT.seq (K := K)
    refine ⟨_, rfl, p, rfl, ⟨_, s0.seq hSq⟩, ?_⟩
    refine for_it walk_list (fun i σ H' => Same H H' ∧ Cnt H' d (Sc.kof Sc.k0 (L.take i)) i ∧ (∃ ls : List (List Nat), H' q = some (.lst ((ls.map S).map V.str)) ∧ ls.flatten = Sc.made Sc.k0 (L.take i) ∧ ls.length = i) ∧ ∃ y z, σ = [some (.ref p), some (.ref d), some (.ref q), y, z]) ?_ (fun i σ H' _ p => p.1.seq hSq) (fun i x σ H1 H2 hi p y => ?_) (fun σ H' p => ?_)
    · refine ⟨s0, ?_, ⟨[], upd_same, rfl, rfl⟩, none, none, rfl⟩
      refine Cnt.of (H := upd H d (.dK [])) Cnt.nil fun o e => ?_
      rw [upd_ne hqd]
      exact e
    · obtain ⟨sm, hC, ⟨ls, hq, hf, hll⟩, y1, z1, rfl⟩ := p
      obtain ⟨rfl, hx⟩ := y
      rw [hvl] at hi
      have ge := List.getElem?_eq_getElem hi
      generalize L[i] = e at ge
      obtain ⟨t, ht, hto⟩ := hAt i _ ge
      rw [ht] at hx
      cases hx
      have he := hL e (List.mem_of_getElem? ge)
      have hk := Sc.kof_le (B := 1000) (L.take i) Sc.k0 (fun _ => Nat.zero_le _) (fun a ha => hL a (List.mem_of_mem_take ha)) e.1
      obtain ⟨o, ho, ho2⟩ := hC.get e.1
      refine ⟨t, _, rfl, SqT.of (sm _ _ hto), rfl, _, _, rfl, _, _, rfl, rfl, ?_⟩
      refine ⟨_, rfl, .inl ⟨rfl, _, SqL.of hq⟩, _, rfl, _, rfl, _, rfl, d, rfl, hC.isD, _, rfl, o, ho, _, _, rfl, ho2, e.1, _, rfl, rfl, by omega, by omega, ?_⟩
      have er : ((e.2 : Int) - ((Sc.kof Sc.k0 (L.take i) e.1 : Nat) : Int)).toNat = e.2 - Sc.kof Sc.k0 (L.take i) e.1 := by omega
      rw [er, rep_S]
      refine ⟨q, _, _, rfl, rfl, hq, ?_, ?_⟩
      · rw [List.length_map, List.length_map, hll, sizeLine_eq]
        omega
      refine ⟨_, rfl, _, rfl, _, rfl, ?_⟩
      have hC1 : Cnt (upd H2 q (.lst ((ls.map S).map V.str ++ [V.str (S (List.replicate (e.2 - Sc.kof Sc.k0 (L.take i) e.1) e.1))]))) d (Sc.kof Sc.k0 (L.take i)) i := hC.of fun o h => by
        rw [upd_ne hqd]
        exact h
      have hq1 : (upd H2 q (.lst ((ls.map S).map V.str ++ [V.str (S (List.replicate (e.2 - Sc.kof Sc.k0 (L.take i) e.1) e.1))]))) q = some (.lst (((ls ++ [List.replicate (e.2 - Sc.kof Sc.k0 (L.take i) e.1) e.1]).map S).map V.str)) := by
        rw [upd_same, List.map_append, List.map_append]
        rfl
      have sm1 := same_at (o := .lst ((ls.map S).map V.str ++ [V.str (S (List.replicate (e.2 - Sc.kof Sc.k0 (L.take i) e.1) e.1))])) sm nq0
      generalize upd H2 q (.lst ((ls.map S).map V.str ++ [V.str (S (List.replicate (e.2 - Sc.kof Sc.k0 (L.take i) e.1) e.1))])) = H3 at hC1 hq1 sm1 ⊢
      obtain ⟨H4, hput, hC4, _, kvs, hk4, e4⟩ := hC1.put e.1 e.2 (by omega)
      refine ⟨d, H4, rfl, hput, ?_, ?_, ?_, _, _, rfl⟩
      · rw [e4]
        exact same_at sm1 nd
      · rw [Sc.take_snoc ge, Sc.kof_snoc]
        exact hC4
      · refine ⟨ls ++ [List.replicate (e.2 - Sc.kof Sc.k0 (L.take i) e.1) e.1], ?_, ?_, ?_⟩
        · rw [e4, upd_ne (fun z => hqd z.symm)]
          exact hq1
        · rw [List.flatten_append, hf, Sc.take_snoc ge, Sc.made_snoc]
          simp
        · rw [List.length_append, hll]
          rfl
    · obtain ⟨sm, hC, ⟨ls, hq, hf, hll⟩, y1, z1, rfl⟩ := p
      rw [hvl, List.take_length] at hf
      refine ⟨⟨_, rfl⟩, _, rfl, _, q, _, rfl, rfl, .inl (SqL.of hq), ?_, ?_⟩
      · rw [List.map_map]
        have e1 : (Str.length ∘ S) = List.length := by
          funext l
          exact S_len l
        rw [e1, ← List.length_flatten, hf]
        show _ + (ls.map S).length * 0 ≤ _
        omega
      · rw [join_S, hf]
        exact hQ _ sm
abbrev N38 : List Str := ["_law_ends_here", "_law_found", "_law_known", "_law_letter", "_law_count"]
theorem sc38 : FnScope N38 ["_law_ends_here"] (defScope (topS 38)) := ⟨rfl, rfl, rfl, by decide +kernel, rfl, by decide +kernel, by decide +kernel⟩
theorem ok_lmade (B : Bs mg) (D : Df K mg "_law_made" 38 ["_law_ends_here"]) : Ok P w K mg base 1 "_law_made" spMade := by
  refine mkOk D sc38 (fun vs H Q E h => ?_) (fun f cdv A outer s H vs Q E hr h => ⟨_, (pss_cons (ps_par (i := 1) (j := 2) (by rfl) sc38.nd rfl rfl (by decide) rfl rfl (pa_cons pe_str (pa_cons pe_dnewK pa_nil)) (by rfl))
      (pss_cons (ps_for PassesOwn.never rfl (pi_list (pv 0)) (pg_tup (by rfl) (pgs_cons (pg_name (i := 3) sc38.nd rfl (.inl rfl)) (pgs_cons (pg_name (i := 4) sc38.nd rfl (.inl rfl)) pgs_nil))) (pss_cons (ps_set (i := 1) sc38.nd rfl (.inl rfl) (pe_op op_add_str (pv 1) (pe_op op_mulS (pv 3) (pe_op op_sub (pv 4) (pe_dget2 (hu_of hr) (pv 2) (pv 3) pe_int ⟨by rfl, by rfl, by rfl, by rfl⟩)))))
      (pss_one (ps_dput (hu_of hr) (pv 2) (pv 3) (pv 4) rfl))))
      (pss_one (ps_ret (pv 1))))), ?_⟩)
  · obtain ⟨a, _, rfl, _⟩ := h
    rfl
  · obtain ⟨p, L, rfl, hT, hl, hL, hm, hQ⟩ := h
    refine fun d nd => ⟨_, _, rfl, ?_⟩
    have s0 : Same H (upd H d (.dK [])) := same_upd nd
    obtain ⟨vs, hv, hvl, hSq, hAt⟩ := hT.seq (K := K)
    refine ⟨_, rfl, p, rfl, ⟨_, s0.seq hSq⟩, ?_⟩
    refine for_it walk_list (fun i σ H' => Same H H' ∧ Cnt H' d (Sc.kof Sc.k0 (L.take i)) i ∧ ∃ y z, σ = [some (.ref p), some (.str (S (Sc.made Sc.k0 (L.take i)))), some (.ref d), y, z]) ?_ (fun i σ H' _ p => p.1.seq hSq) (fun i x σ H1 H2 hi p y => ?_) (fun σ H' p => ?_)
    · exact ⟨s0, Cnt.nil, none, none, rfl⟩
    · obtain ⟨sm, hC, y1, z1, rfl⟩ := p
      obtain ⟨rfl, hx⟩ := y
      rw [hvl] at hi
      have ge := List.getElem?_eq_getElem hi
      generalize L[i] = e at ge
      obtain ⟨t, ht, hto⟩ := hAt i _ ge
      rw [ht] at hx
      cases hx
      have he := hL e (List.mem_of_getElem? ge)
      have hk := Sc.kof_le (B := 1000) (L.take i) Sc.k0 (fun _ => Nat.zero_le _) (fun a ha => hL a (List.mem_of_mem_take ha)) e.1
      have hmt := Sc.made_take_le L Sc.k0 i
      obtain ⟨o, ho, ho2⟩ := hC.get e.1
      refine ⟨t, _, rfl, SqT.of (sm _ _ hto), rfl, _, _, rfl, _, _, rfl, rfl, ?_⟩
      refine ⟨_, rfl, _, rfl, _, rfl, _, rfl, d, rfl, hC.isD, _, rfl, o, ho, _, _, rfl, ho2, e.1, _, rfl, rfl, by omega, by omega, ?_⟩
      have er : ((e.2 : Int) - ((Sc.kof Sc.k0 (L.take i) e.1 : Nat) : Int)).toNat = e.2 - Sc.kof Sc.k0 (L.take i) e.1 := by omega
      rw [er, rep_S]
      refine ⟨_, _, rfl, rfl, ?_, ?_⟩
      · rw [S_len, S_len, List.length_replicate, sizeLine_eq]
        omega
      obtain ⟨H4, hput, hC4, _, kvs, hk4, e4⟩ := hC.put e.1 e.2 (by omega)
      refine ⟨_, rfl, _, rfl, _, rfl, d, H4, rfl, hput, ?_, ?_, some (.str (S [e.1])), some (.int (e.2 : Nat)), ?_⟩
      · rw [e4]
        exact same_at sm nd
      · rw [Sc.take_snoc ge, Sc.kof_snoc]
        exact hC4
      · rw [Sc.take_snoc ge, Sc.made_snoc, ← S_app]
        rfl
    · obtain ⟨sm, hC, y1, z1, rfl⟩ := p
      rw [hvl, List.take_length]
      exact ⟨_, rfl, hQ _ sm⟩
abbrev N36 : List Str := ["_law_word_here", "_law_found", "_law_at"]
theorem sc36 : FnScope N36 ["_law_word_here"] (defScope (topS 36)) := ⟨rfl, rfl, rfl, by decide +kernel, rfl, by decide +kernel, by decide +kernel⟩
theorem ok_lends (B : Bs mg) (D : Df K mg "_law_ends" 36 ["_law_word_here"]) : Ok P w K mg base 1 "_law_ends" spRuns := by
  refine mkOk D sc36 (fun vs H Q E h => ?_) (fun f cdv A outer s H vs Q E hr h => ⟨_, (pss_cons (ps_set (i := 1) sc36.nd rfl (.inl rfl) (pe_lst pa_nil))
      (pss_cons (ps_for PassesOwn.never rfl (pi_range1 (by rfl) B.range (pa_cons (pe_callB call_len_str (by rfl) B.len (by decide +kernel) (pa_cons (pv 0) pa_nil)) pa_nil)) (pg_name (i := 2) sc36.nd rfl (.inl rfl)) (pss_one (ps_if (PW.pt (pw_or (pt_cmpR op_eq (pe_op op_add (pv 2) pe_int) (pe_callB call_len_str (by rfl) B.len (by decide +kernel) (pa_cons (pv 0) pa_nil)) (nomark _)) (pw_or1 (pt_cmpR op_ne (pe_ix ix_str (pv 0) (pe_op op_add (pv 2) pe_int) (fun _ _ => rfl)) (pe_ix ix_str (pv 0) (pv 2) (fun _ _ => rfl)) (nomark _))))) (pss_one (ps_expr (pe_bm PySem.F.plainAttrs_list PySem.F.slot_list_append PySem.F.type_list_append mt_append (pv 1) (pa_cons (pe_tup (pa_cons (pe_ix ix_str (pv 0) (pv 2) (fun _ _ => rfl)) (pa_cons (pe_m1 PySem.F.slot_str_count PySem.F.type_str_count mt_count (pe_slice sl_str (pv 0) po_none (po_some (pe_op op_add (pv 2) pe_int))) (pe_ix ix_str (pv 0) (pv 2) (fun _ _ => rfl))) pa_nil))) pa_nil)))) pss_nil)))
      (pss_one (ps_ret (pv 1))))), ?_⟩)
  · obtain ⟨a, rfl, _⟩ := h
    rfl
  · obtain ⟨l, rfl, hW, hl, hQ⟩ := h
    refine ⟨Nat.zero_le _, fun q nq => ?_⟩
    refine ⟨_, rfl, _, rfl, str_small (by omega), _, rfl, by rw [S_len]; omega, by rw [S_len]; omega, ?_⟩
    refine for_it walk_range (fun i σ H' => Same H H' ∧ (∃ F : List (Nat × Nat), TupL runV H' q F ∧ F ++ Sc.ends (Sc.cn (l.take i)) (l.drop i) = Sc.ends Sc.k0 l ∧ F.length ≤ i) ∧ ∃ z, σ = [some (.str (S l)), some (.ref q), z]) ?_ (fun _ _ _ _ _ => True.intro) (fun i x σ H1 H2 hi p y => ?_) (fun σ H' p => ?_)
    · exact ⟨same_upd nq, ⟨[], TupL.nil, rfl, Nat.le_refl _⟩, none, rfl⟩
    · obtain ⟨sm, ⟨F, hT, hF, hFl⟩, z, rfl⟩ := p
      obtain ⟨rfl, rfl⟩ := y
      have hi2 : i < l.length := by
        rw [S_len] at hi
        omega
      have ge := List.getElem?_eq_getElem hi2
      generalize l[i] = c at ge
      have hd := Sc.ends_drop ge (Sc.cn (l.take i))
      rw [← Sc.cn_snoc, ← Sc.take_snoc ge] at hd
      have ac : atI (S l).cps.toList (0 + (i : Nat) : Int) = some c := by
        rw [S_list, Int.zero_add]
        exact atI_nat ge
      have hcount : (l.take (i + 1)).count c = Sc.cn (l.take i) c + 1 := by
        rw [Sc.take_snoc ge, List.count_append]
        simp
        rfl
      obtain ⟨vs0, hv, _⟩ := hT.seq (K := K)
      refine ⟨_, rfl, _, _, rfl, rfl, _, rfl, _, rfl, str_small (by omega), rfl, decide (i + 1 = l.length), ?_, ?_⟩
      · show V.bl (decide (V.int (0 + (i : Nat) + 1) = V.int ((S l).length : Nat))) = _
        have : (V.int (0 + (i : Nat) + 1) = V.int ((S l).length : Nat)) ↔ i + 1 = l.length := by
          rw [S_len]
          constructor
          · intro h
            have := V.int.inj h
            omega
          · intro h
            rw [← h]
            congr 1
            omega
        simp only [this]
      by_cases h1 : i + 1 = l.length
      · have hz : ¬ l[i + 1]? = some c := by
          rw [List.getElem?_eq_none (by omega)]
          exact fun h => nomatch h
        rw [decide_eq_true h1]
        refine iteT (iteT ?_)
        · skip
          refine ⟨_, rfl, .inl ⟨rfl, _, SqL.of hv⟩, ?_⟩
          refine ⟨_, rfl, _, rfl, _, _, _, rfl, rfl, str_small (by omega), ac, ⟨_, rfl, _, rfl, _, _, rfl, rfl, _, rfl, _, rfl, str_small (by omega), ?_⟩⟩
          refine ⟨⟨_, rfl⟩, _, rfl, _, rfl, _, _, _, rfl, rfl, str_small (by omega), ac, _, _, rfl, rfl, ?_⟩
          refine ⟨(by decide : 2 ≤ sizeLine), fun t nt => ?_⟩
          rw [show ((0 : Int) + (i : Nat) + 1) = ((i + 1 : Nat) : Int) by omega, cut_to, show (⟨#[c]⟩ : Str) = S [c] from rfl, count_S, hcount]
          obtain ⟨vs, hv, hvl, hT6⟩ := (hT.same (same_upd nt)).push (x := (c, Sc.cn (l.take i) c + 1)) (t := t) upd_same
          refine ⟨q, vs, _, rfl, rfl, hv, ?_, ?_⟩
          · rw [hvl, sizeLine_eq]
            omega
          · refine ⟨same_at (sm.trans (same_upd nt)) nq, ⟨_, hT6, ?_, ?_⟩, _, rfl⟩
            · rw [← hF, hd, if_neg hz]
              simp
            · rw [List.length_append]
              show F.length + 1 ≤ i + 1
              omega
      · rw [decide_eq_false h1]
        have h2 : i + 1 < l.length := by omega
        have ge2 := List.getElem?_eq_getElem h2
        generalize l[i + 1] = c2 at ge2
        have ac2 : atI (S l).cps.toList (0 + (i : Nat) + 1 : Int) = some c2 := by
          rw [S_list, show ((0 : Int) + (i : Nat) + 1) = ((i + 1 : Nat) : Int) by omega]
          exact atI_nat ge2
        refine iteF ?_
        refine ⟨_, rfl, _, rfl, _, _, rfl, rfl, _, _, _, rfl, rfl, str_small (by omega), ac2, _, rfl, _, rfl, _, _, _, rfl, rfl, str_small (by omega), ac, rfl, !decide (c2 = c), ?_, ?_⟩
        · show V.bl (!decide (V.str (S [c2]) = V.str (S [c]))) = V.bl (!decide (c2 = c))
          have : (V.str (S [c2]) = V.str (S [c])) ↔ c2 = c := ⟨fun h => by
            have := S_inj (V.str.inj h)
            simpa using this, fun h => by rw [h]⟩
          simp only [this]
        by_cases hz : l[i + 1]? = some c
        · have e2 : c2 = c := by
            rw [ge2] at hz
            exact Option.some.inj hz
          rw [decide_eq_true e2]
          refine iteF ?_
          rw [if_pos hz] at hd
          rw [hd] at hF
          exact ⟨sm, ⟨F, hT, hF, by omega⟩, _, rfl⟩
        · have e2 : ¬ c2 = c := fun e => hz (by rw [ge2, e])
          rw [decide_eq_false e2]
          refine iteT ?_
          refine ⟨_, rfl, .inl ⟨rfl, _, SqL.of hv⟩, ?_⟩
          refine ⟨_, rfl, _, rfl, _, _, _, rfl, rfl, str_small (by omega), ac, ⟨_, rfl, _, rfl, _, _, rfl, rfl, _, rfl, _, rfl, str_small (by omega), ?_⟩⟩
          refine ⟨⟨_, rfl⟩, _, rfl, _, rfl, _, _, _, rfl, rfl, str_small (by omega), ac, _, _, rfl, rfl, ?_⟩
          refine ⟨(by decide : 2 ≤ sizeLine), fun t nt => ?_⟩
          rw [show ((0 : Int) + (i : Nat) + 1) = ((i + 1 : Nat) : Int) by omega, cut_to, show (⟨#[c]⟩ : Str) = S [c] from rfl, count_S, hcount]
          obtain ⟨vs, hv, hvl, hT6⟩ := (hT.same (same_upd nt)).push (x := (c, Sc.cn (l.take i) c + 1)) (t := t) upd_same
          refine ⟨q, vs, _, rfl, rfl, hv, ?_, ?_⟩
          · rw [hvl, sizeLine_eq]
            omega
          · refine ⟨same_at (sm.trans (same_upd nt)) nq, ⟨_, hT6, ?_, ?_⟩, _, rfl⟩
            · rw [← hF, hd, if_neg hz]
              simp
            · rw [List.length_append]
              show F.length + 1 ≤ i + 1
              omega
    · obtain ⟨sm, ⟨F, hT, hF, hFl⟩, z, rfl⟩ := p
      rw [S_len, Int.toNat_natCast, List.drop_length] at hF
      refine ⟨_, rfl, hQ _ q sm nq ?_⟩
      rw [← hF]
      show TupL runV H' q (F ++ [])
      rw [List.append_nil]
      exact hT
end Sd

/-! ScD6 -/
/-! _law_grown, grows_to, count_rules, least_rule, greatest_rule. -/
namespace Sd
open PySem PySem.Spec PyProof.Rows L2 Sr
variable {P : Program} {w : World} {K : PySem.W.Frag} {mg : Str → Option Value} {base : Heap}
abbrev N41 : List Str := ["_law_bare", "_law_widths", "_law_sums_here", "_law_one", "_law_letter", "_law_rank"]
theorem sc41 : FnScope N41 ["_law_bare", "_law_widths"] (defScope (topS 41)) := ⟨rfl, rfl, rfl, by decide +kernel, rfl, by decide +kernel, by decide +kernel⟩
def spGrown (K : PySem.W.Frag) : Sp := fun vs H Q _ => ∃ (l ws : List Nat) (a : Addr), vs = [.str (S l), .ref a] ∧ Wd l ∧ l.length ≤ 20 ∧ SqL K H a (rowV ws) ∧ ws.length ≤ 60 ∧ (∀ x ∈ ws, x ≤ 10) ∧ (∀ e ∈ Sc.ends Sc.k0 l, e.2 ≤ ws.length) ∧
  ∀ H', Same H H' → Q (.str (S (Sc.grown l ws))) H'
theorem psum_le {ws : List Nat} (h : ∀ x ∈ ws, x ≤ 10) (j : Nat) (hj : j ≤ 60) : Sc.psum ws j ≤ 600 := by
  have := Sc.psum_slope h 0 j (Nat.zero_le _)
  rw [Sc.psum0] at this
  omega
theorem rowV_snoc (r : List Nat) (n : Nat) : rowV (r ++ [n]) = rowV r ++ [.int (n : Int)] := by
  unfold rowV
  rw [List.map_append]
  rfl
theorem psums_snoc (ws : List Nat) (i : Nat) : (List.range (i + 1)).map (Sc.psum ws) = (List.range i).map (Sc.psum ws) ++ [Sc.psum ws i] := by
  rw [List.range_succ, List.map_append]
  rfl
theorem ok_grown (B : Bs mg) (D : Df K mg "_law_grown" 41 ["_law_bare", "_law_widths"]) (O36 : Ok P w K mg base 1 "_law_ends" spRuns) (O38 : Ok P w K mg base 1 "_law_made" spMade) : Ok P w K mg base 2 "_law_grown" (spGrown K) := by
  refine mkOk D sc41 (fun vs H Q E h => ?_) (fun f cdv A outer s H vs Q E hr h => ⟨_, (pss_cons (ps_set (i := 2) sc41.nd rfl (.inr rfl) (pe_lst (pa_cons pe_int pa_nil)))
      (pss_cons (ps_for PassesOwn.never rfl (pi_list (pv 1)) (pg_name (i := 3) sc41.nd rfl (.inl rfl)) (pss_one (ps_expr (pe_bm PySem.F.plainAttrs_list PySem.F.slot_list_append PySem.F.type_list_append mt_append (pv 2) (pa_cons (pe_op op_add (pe_ix ix_list (pv 2) (pe_un un_neg pe_int) (fun _ _ => rfl)) (pv 3)) pa_nil)))))
      (pss_one (ps_ret (pe_k O38 hr (by decide) (by rfl) (pa_cons (pe_lc (own := [("_law_letter", 4), ("_law_rank", 5)]) (by rfl) sc41.nd (pi_list (pe_k O36 hr (by decide) (by rfl) (pa_cons (pv 0) pa_nil))) (blkOk_by (own := [("_law_letter", 4), ("_law_rank", 5)]) (N := N41) (sc := defScope (topS 41)) (by decide +kernel)) (fun _ _ _ _ _ => (pg_tupK K 2 rfl rfl (pgs_cons (pg_name (i := 4) sc41.nd rfl (.inl rfl)) (pgs_cons (pg_name (i := 5) sc41.nd rfl (.inl rfl)) pgs_nil)))) (fun _ _ _ _ _ => pts_nil) (fun _ _ _ _ _ => (pe_tup (pa_cons (pv 4) (pa_cons (pe_ix (ix_listK K rfl) (pv 2) (pv 5) (fun _ _ => rfl)) pa_nil))))) pa_nil)))))), ?_⟩)
  · obtain ⟨a, _, _, rfl, _⟩ := h
    rfl
  · obtain ⟨l, ws, a, rfl, hW, hl, hS, hwl, hw, he, hQ⟩ := h
    have hel := Sc.ends_len l Sc.k0
    refine ⟨(by decide : 1 ≤ sizeLine), fun q nq => ?_⟩
    refine ⟨_, rfl, a, rfl, ⟨_, (same_upd nq).seq hS⟩, ?_⟩
    refine for_it walk_list (fun i σ H' => Same H H' ∧ H' q = some (.lst (rowV ((List.range (i + 1)).map (Sc.psum ws)))) ∧ ∃ z, σ = [some (.str (S l)), some (.ref a), some (.ref q), z, none, none]) ⟨same_upd nq, upd_same, none, rfl⟩ (fun i σ H' _ p => p.1.seq hS) (fun i x σ H1 H2 hi p y => ?_) (fun σ H' p => ?_)
    · obtain ⟨sm, hq, z, rfl⟩ := p
      obtain ⟨rfl, hx⟩ := y
      obtain ⟨n, hn, rfl⟩ := rowV_at hx
      rw [rowV_len] at hi
      have hv : atI (rowV ((List.range (i + 1)).map (Sc.psum ws))) (-1) = some (.int (Sc.psum ws i : Nat)) := by
        rw [psums_snoc, rowV_snoc]
        exact atI_last _ _
      have hnext : Sc.psum ws (i + 1) = Sc.psum ws i + n := by
        rw [Sc.psum_succ, List.getD_eq_getElem?_getD, hn]
        rfl
      refine ⟨_, rfl, .inl ⟨rfl, _, SqL.of hq⟩, _, rfl, _, rfl, _, _, _, _, rfl, rfl, SqL.of hq, hv, _, rfl, _, _, rfl, rfl, ?_⟩
      refine ⟨q, _, _, rfl, rfl, hq, ?_, same_at sm nq, ?_, _, rfl⟩
      · rw [rowV_len, List.length_map, List.length_range, sizeLine_eq]
        omega
      · rw [upd_same, psums_snoc ws (i + 1), rowV_snoc, hnext]
        rfl
    · obtain ⟨sm, hq, z, rfl⟩ := p
      rw [rowV_len] at hq
      refine ⟨_, rfl, l, rfl, hW, by omega, fun H2 p s2 np hT => ?_⟩
      obtain ⟨vs, hv, hvl, hSq, hAt⟩ := hT.seq (K := K)
      refine ⟨p, rfl, ⟨_, hSq⟩, fun D nD => ?_⟩
      refine lc_tups walk_list runV (Sc.mapc (Sc.psum ws) (Sc.ends Sc.k0 l)) ?_ ?_ nD (fun H3 s3 => s3.seq hSq) (fun i x H3 H4 hi s3 y R hR => ?_) (fun H3 s3 hD => ?_)
      · rw [hvl]
        exact List.length_map _
      · rw [hvl]
        omega
      · obtain ⟨rfl, hx⟩ := y
        rw [hvl] at hi
        have ge := List.getElem?_eq_getElem hi
        generalize (Sc.ends Sc.k0 l)[i] = e at ge
        obtain ⟨t, ht, hto⟩ := hAt i _ ge
        rw [ht] at hx
        cases hx
        have hme := he e (List.mem_of_getElem? ge)
        have hv : atI (rowV ((List.range (ws.length + 1)).map (Sc.psum ws))) ((e.2 : Nat) : Int) = some (.int (Sc.psum ws e.2 : Nat)) := by
          refine atI_nat (rowV_get ?_)
          rw [List.getElem?_map, List.getElem?_range (by omega)]
          rfl
        refine ⟨t, _, rfl, SqT.of (s3 _ _ hto), rfl, _, _, rfl, _, _, rfl, rfl, rfl, _, rfl, _, rfl, _, rfl, _, _, _, _, rfl, rfl, SqL.of (s3 _ _ (s2 _ _ hq)), hv, (by decide : 2 ≤ sizeLine), fun u nu => ?_⟩
        refine hR u _ (e.1, Sc.psum ws e.2) (same_upd nu) ?_ upd_same
        unfold Sc.mapc
        rw [List.getElem?_map, ge]
        rfl
      · refine ⟨D, _, rfl, hD, ?_, ?_, ?_, fun H5 s5 => hQ H5 (sm.trans (s2.trans (s3.trans s5)))⟩
        · show (List.map _ _).length ≤ 60
          rw [List.length_map]
          omega
        · intro e hme
          obtain ⟨r, hr, rfl⟩ := List.mem_map.mp hme
          have := psum_le hw r.2 (Nat.le_trans (he r hr) hwl)
          show Sc.psum ws r.2 ≤ 1000
          omega
        · have := Sc.grown_len (b := l) hw
          show (Sc.grown l ws).length ≤ 1000
          omega
/-! ### two words -/
abbrev AB (u v : List Nat) : List (Nat × Nat) := (Sc.gaps u).zip (Sc.gaps v)
def grows (u v : List Nat) : Bool := decide (Sc.core u = Sc.core v) && (AB u v).all fun p => decide (p.1 ≤ p.2)
def spGrows : Sp := fun vs H Q _ => ∃ u v : List Nat, vs = [.str (S u), .str (S v)] ∧ Wd u ∧ u.length ≤ 60 ∧ Wd v ∧ v.length ≤ 60 ∧ ∀ H', Same H H' → Q (.bl (grows u v)) H'
theorem pair_at {A B : List Nat} {i : Nat} {H : Hp} {v : V} {H' : Hp} (y : YPair (fun i => (rowV A)[i]?) (fun i => (rowV B)[i]?) i H v H') :
    ∃ (T : Addr) (p : Nat × Nat), v = .ref T ∧ H T = none ∧ H' = upd H T (.tup [.int (p.1 : Nat), .int (p.2 : Nat)]) ∧ (A.zip B)[i]? = some p := by
  obtain ⟨T, x, z, h1, h2, h3, h4, h5⟩ := y
  obtain ⟨a, ha, rfl⟩ := rowV_at h4
  obtain ⟨b, hb, rfl⟩ := rowV_at h5
  exact ⟨T, (a, b), h1, h2, h3, List.getElem?_zip_eq_some.mpr ⟨ha, hb⟩⟩
theorem zip_n (A B : List Nat) : (A.zip B).length = min (rowV A).length (rowV B).length := by
  rw [rowV_len, rowV_len, List.length_zip]
theorem all_map_id {α : Type} (l : List α) (p : α → Bool) : (l.map p).all id = l.all p := by
  induction l with
  | nil => rfl
  | cons a l ih =>
    show (p a && (l.map p).all id) = (p a && l.all p)
    rw [ih]
theorem S_ne {u v : List Nat} : (!decide (V.str (S u) = V.str (S v))) = !decide (u = v) := by
  have : (V.str (S u) = V.str (S v)) ↔ u = v := ⟨fun h => S_inj (V.str.inj h), fun h => by rw [h]⟩
  simp only [this]
theorem gaps_len_le (l : List Nat) : (Sc.gaps l).length ≤ l.length := by
  have := marks_len l
  rw [Sc.gaps_len]
  omega
theorem sum_mem {l : List Nat} {x : Nat} (h : x ∈ l) : x ≤ l.sum := by
  induction l with
  | nil => simp at h
  | cons a l ih =>
    rw [List.sum_cons]
    rcases List.mem_cons.mp h with e | e
    · omega
    · have := ih e
      omega
theorem last_le (l : List Nat) : Sc.last l ≤ l.length := by
  exact marks_le (List.mem_of_getLast? (Sc.marks_last l))
theorem gap_le {l : List Nat} {x : Nat} (h : x ∈ Sc.gaps l) : x ≤ l.length := Nat.le_trans (sum_mem h) (last_le l)
theorem AB_mem {u v : List Nat} {p : Nat × Nat} (h : p ∈ AB u v) : p.1 ∈ Sc.gaps u ∧ p.2 ∈ Sc.gaps v := List.of_mem_zip h
abbrev N17 : List Str := ["one", "other", "a", "b"]
theorem sc17 : FnScope N17 ["one", "other"] (defScope (topS 17)) := ⟨rfl, rfl, rfl, by decide +kernel, rfl, by decide +kernel, by decide +kernel⟩
theorem ok_grows (B : Bs mg) (D : Df K mg "grows_to" 17 ["one", "other"]) (O13 : Ok P w K mg base 3 "core_of" spCore) (O14 : Ok P w K mg base 3 "gaps_of" spGaps) : Ok P w K mg base 4 "grows_to" spGrows := by
  refine mkOk D sc17 (fun vs H Q E h => ?_) (fun f cdv A outer s H vs Q E hr h => ⟨_, (pss_cons (ps_if (pt_cmpR op_ne (pe_k O13 hr (by decide) (by rfl) (pa_cons (pv 0) pa_nil)) (pe_k O13 hr (by decide) (by rfl) (pa_cons (pv 1) pa_nil)) (nomark _)) (pss_one (ps_ret pe_bl)) pss_nil)
      (pss_one (ps_ret (pe_callB (cr_all (by rfl)) (by rfl) B.all (by decide +kernel) (pa_cons (pe_lc (own := [("a", 2), ("b", 3)]) (by rfl) sc17.nd (pi_zip (by rfl) B.zip (pa_cons (pe_k O14 hr (by decide) (by rfl) (pa_cons (pv 0) pa_nil)) (pa_cons (pe_k O14 hr (by decide) (by rfl) (pa_cons (pv 1) pa_nil)) pa_nil))) (blkOk_by (own := [("a", 2), ("b", 3)]) (N := N17) (sc := defScope (topS 17)) (by decide +kernel)) (fun _ _ _ _ _ => (pg_tupK K 2 rfl rfl (pgs_cons (pg_name (i := 2) sc17.nd rfl (.inl rfl)) (pgs_cons (pg_name (i := 3) sc17.nd rfl (.inl rfl)) pgs_nil)))) (fun _ _ _ _ _ => pts_nil) (fun _ _ _ _ _ => (pe_cmpR op_le (pv 2) (pv 3) (nomark _)))) pa_nil))))), ?_⟩)
  · obtain ⟨a, _, rfl, _⟩ := h
    rfl
  · obtain ⟨u, v, rfl, hu, hul, hv, hvl, hQ⟩ := h
    refine ⟨_, rfl, u, rfl, hu, hul, fun H1 s1 => ⟨_, rfl, v, rfl, hv, hvl, fun H2 s2 => ⟨rfl, _, by rw [S_ne], ?_⟩⟩⟩
    unfold grows at hQ
    by_cases hc : Sc.core u = Sc.core v
    · rw [decide_eq_true hc]
      rw [decide_eq_true hc] at hQ
      refine iteF ?_
      refine ⟨_, rfl, u, rfl, hu, hul, fun H3 p s3 np hp => ⟨_, rfl, v, rfl, hv, hvl, fun H4 q s4 nq hq => ?_⟩⟩
      refine ⟨p, q, _, _, rfl, SqL.of (s4 _ _ hp), SqL.of hq, fun D nD => ?_⟩
      refine lc_vals (walk_zip (zip_n (Sc.gaps u) (Sc.gaps v))) (((AB u v).map fun p => decide (p.1 ≤ p.2)).map V.bl) ?_ ?_ nD (fun H5 s5 => ⟨SqL.of (s5 _ _ (s4 _ _ hp)), SqL.of (s5 _ _ hq)⟩) (fun i x H5 H6 hi s5 y R hR => ?_) (fun H5 s5 hD => ?_)
      · rw [List.length_map, List.length_map]
      · rw [List.length_zip]
        have := gaps_len_le u
        omega
      · obtain ⟨T, e, rfl, hT, rfl, he⟩ := pair_at y
        refine ⟨T, _, rfl, SqT.of upd_same, rfl, _, _, rfl, _, _, rfl, rfl, rfl, _, rfl, _, rfl, _, _, rfl, rfl, ?_⟩
        refine hR _ _ (same_upd hT) ?_
        rw [List.getElem?_map, List.getElem?_map, he]
        show some (V.bl (decide (e.1 ≤ e.2))) = some (V.bl (decide ((e.1 : Int) ≤ (e.2 : Int))))
        have : ((e.1 : Int) ≤ (e.2 : Int)) ↔ e.1 ≤ e.2 := by omega
        simp only [this]
      · refine ⟨D, _, rfl, SqL.of hD, ?_⟩
        rw [all_map_id]
        exact hQ H5 (s1.trans (s2.trans (s3.trans (s4.trans s5))))
    · rw [decide_eq_false hc]
      rw [decide_eq_false hc] at hQ
      exact iteT (hQ H2 (s1.trans s2))
end Sd

/-! ScD7 -/
/-! count_rules, least_rule, greatest_rule. -/
namespace Sd
open PySem PySem.Spec PyProof.Rows L2 Sr
variable {P : Program} {w : World} {K : PySem.W.Frag} {mg : Str → Option Value} {base : Heap}
/-- two words as the law draws them -/
structure Two (u v : List Nat) : Prop where
  wu : Wd u
  wv : Wd v
  lu : u.length ≤ 40
  lv : v.length ≤ 40
  gu : ∀ x ∈ Sc.gaps u, x ≤ 3
theorem Two.ab {u v : List Nat} (h : Two u v) {p : Nat × Nat} (hp : p ∈ AB u v) : 1 ≤ p.1 ∧ p.1 ≤ 3 ∧ 1 ≤ p.2 ∧ p.2 ≤ 40 := by
  obtain ⟨h1, h2⟩ := AB_mem hp
  exact ⟨Sc.gaps_pos _ _ h1, h.gu _ h1, Sc.gaps_pos _ _ h2, Nat.le_trans (gap_le h2) h.lv⟩
theorem Two.len {u v : List Nat} (h : Two u v) : (AB u v).length ≤ 40 := by
  rw [List.length_zip]
  have := gaps_len_le u
  have := h.lu
  omega
theorem Two.ways {u v : List Nat} (h : Two u v) {p : Nat × Nat} (hp : p ∈ AB u v) : Sc.ways p.1 p.2 ≤ 1000 := by
  obtain ⟨h1, h2, h3, h4⟩ := h.ab hp
  rw [← Sc.ways_len h1 h3]
  exact (Sc.sums_small h2 h4).2
theorem grows_le {u v : List Nat} (h : grows u v = true) : ∀ p ∈ AB u v, p.1 ≤ p.2 := by
  unfold grows at h
  rw [Bool.and_eq_true, List.all_eq_true] at h
  intro p hp
  exact of_decide_eq_true (h.2 p hp)
abbrev N22 : List Str := ["one", "other", "a", "b"]
theorem sc22 : FnScope N22 ["one", "other"] (defScope (topS 22)) := ⟨rfl, rfl, rfl, by decide +kernel, rfl, by decide +kernel, by decide +kernel⟩
def cr (u v : List Nat) : Nat := if grows u v = true then Sc.prod ((AB u v).map fun p => Sc.ways p.1 p.2) else 0
def spCount : Sp := fun vs H Q _ => ∃ u v : List Nat, vs = [.str (S u), .str (S v)] ∧ Two u v ∧ ∀ H', Same H H' → Q (.int (cr u v : Nat)) H'
theorem ok_count (B : Bs mg) (D : Df K mg "count_rules" 22 ["one", "other"]) (O16 : Ok P w K mg base 2 "need_two" spTwo) (O17 : Ok P w K mg base 4 "grows_to" spGrows) (O18 : Ok P w K mg base 1 "product_of" (spProd K)) (O14 : Ok P w K mg base 3 "gaps_of" spGaps) (O21 : Ok P w K mg base 2 "ways_between" spWays) : Ok P w K mg base 5 "count_rules" spCount := by
  refine mkOk D sc22 (fun vs H Q E h => ?_) (fun f cdv A outer s H vs Q E hr h => ⟨_, (pss_cons (ps_expr (pe_k O16 hr (by decide) (by rfl) (pa_cons (pv 0) (pa_cons (pv 1) pa_nil))))
      (pss_cons (ps_if (pt_not (pt_val (pe_k O17 hr (by decide) (by rfl) (pa_cons (pv 0) (pa_cons (pv 1) pa_nil))))) (pss_one (ps_ret pe_int)) pss_nil)
      (pss_one (ps_ret (pe_k O18 hr (by decide) (by rfl) (pa_cons (pe_lc (own := [("a", 2), ("b", 3)]) (by rfl) sc22.nd (pi_zip (by rfl) B.zip (pa_cons (pe_k O14 hr (by decide) (by rfl) (pa_cons (pv 0) pa_nil)) (pa_cons (pe_k O14 hr (by decide) (by rfl) (pa_cons (pv 1) pa_nil)) pa_nil))) (blkOk_by (own := [("a", 2), ("b", 3)]) (N := N22) (sc := defScope (topS 22)) (by decide +kernel)) (fun _ _ _ _ _ => (pg_tupK K 2 rfl rfl (pgs_cons (pg_name (i := 2) sc22.nd rfl (.inl rfl)) (pgs_cons (pg_name (i := 3) sc22.nd rfl (.inl rfl)) pgs_nil)))) (fun _ _ _ _ _ => pts_nil) (fun _ _ _ _ _ => (pe_k O21 hr (by decide) (by rfl) (pa_cons (pv 2) (pa_cons (pv 3) pa_nil))))) pa_nil)))))), ?_⟩)
  · obtain ⟨a, _, rfl, _⟩ := h
    rfl
  · obtain ⟨u, v, rfl, h2, hQ⟩ := h
    have lu := h2.lu
    have lv := h2.lv
    refine ⟨_, rfl, _, rfl, u, v, rfl, h2.wu, by omega, h2.wv, by omega, fun H1 s1 => ?_⟩
    refine ⟨_, rfl, _, rfl, u, v, rfl, h2.wu, by omega, h2.wv, by omega, fun H2 s2 => ⟨_, rfl, ?_⟩⟩
    unfold cr at hQ
    by_cases hg : grows u v = true
    · rw [hg]
      rw [if_pos hg] at hQ
      refine iteF ?_
      refine ⟨_, rfl, u, rfl, h2.wu, by omega, fun H3 p s3 np hp => ⟨_, rfl, v, rfl, h2.wv, by omega, fun H4 q s4 nq hq => ?_⟩⟩
      refine ⟨p, q, _, _, rfl, SqL.of (s4 _ _ hp), SqL.of hq, fun D nD => ?_⟩
      refine lc_vals (walk_zip (zip_n (Sc.gaps u) (Sc.gaps v))) (rowV ((AB u v).map fun p => Sc.ways p.1 p.2)) ?_ ?_ nD (fun H5 s5 => ⟨SqL.of (s5 _ _ (s4 _ _ hp)), SqL.of (s5 _ _ hq)⟩) (fun i x H5 H6 hi s5 y R hR => ?_) (fun H5 s5 hD => ?_)
      · rw [rowV_len, List.length_map]
      · exact Nat.le_trans h2.len (by decide)
      · obtain ⟨T, e, rfl, hT, rfl, he⟩ := pair_at y
        obtain ⟨g1, g2, g3, g4⟩ := h2.ab (List.mem_of_getElem? he)
        refine ⟨T, _, rfl, SqT.of upd_same, rfl, _, _, rfl, _, _, rfl, rfl, rfl, _, rfl, _, rfl, _, _, rfl, g1, g3, by omega, ?_⟩
        refine hR _ _ (same_upd hT) ?_
        refine rowV_get ?_
        rw [List.getElem?_map, he]
        rfl
      · refine ⟨D, _, rfl, SqL.of hD, fun x hx => ?_, hQ H5 (s1.trans (s2.trans (s3.trans (s4.trans s5))))⟩
        obtain ⟨p, hp, rfl⟩ := List.mem_map.mp hx
        have := h2.ways hp
        show Sc.ways p.1 p.2 ≤ _
        omega
    · rw [Bool.not_eq_true] at hg
      rw [hg]
      rw [hg, if_neg Bool.false_ne_true] at hQ
      exact iteT (hQ H2 (s1.trans s2))
/-- a tuple of numbers or None -/
def spRow (F : List (Nat × Nat) → List Nat) : Sp := fun vs H Q _ => ∃ u v : List Nat, vs = [.str (S u), .str (S v)] ∧ Two u v ∧ (grows u v = false → ∀ H', Same H H' → Q .non H') ∧ (grows u v = true → ∀ H' t, Same H H' → H' t = some (.tup (rowV (F (AB u v)))) → Q (.ref t) H')
theorem flat_snoc {F : Nat × Nat → List Nat} (l : List (Nat × Nat)) (p : Nat × Nat) : (l ++ [p]).flatMap F = l.flatMap F ++ F p := by
  rw [List.flatMap_append]
  simp
theorem flat_len {F : Nat × Nat → List Nat} {l : List (Nat × Nat)} (h : ∀ p ∈ l, (F p).length ≤ 3) : (l.flatMap F).length ≤ 3 * l.length := by
  induction l with
  | nil => exact Nat.zero_le _
  | cons p l ih =>
    have h1 := h p List.mem_cons_self
    have h2 := ih fun q hq => h q (List.mem_cons_of_mem _ hq)
    rw [List.flatMap_cons, List.length_append, List.length_cons]
    omega
theorem ones (n : Nat) : (List.replicate ((n : Int) - 1).toNat [V.int 1]).flatten = rowV (List.replicate (n - 1) 1) := by
  have e : ((n : Int) - 1).toNat = n - 1 := by omega
  rw [e]
  unfold rowV
  rw [List.map_replicate]
  generalize n - 1 = k
  induction k with
  | zero => rfl
  | succ k ih =>
    rw [List.replicate_succ, List.replicate_succ, List.flatten_cons, ih]
    rfl
theorem rowV_app (r s : List Nat) : rowV (r ++ s) = rowV r ++ rowV s := by
  unfold rowV
  rw [List.map_append]
abbrev N23 : List Str := ["one", "other", "found", "a", "b"]
theorem sc23 : FnScope N23 ["one", "other"] (defScope (topS 23)) := ⟨rfl, rfl, rfl, by decide +kernel, rfl, by decide +kernel, by decide +kernel⟩
theorem ok_23 (B : Bs mg) (D : Df K mg "least_rule" 23 ["one", "other"]) (O16 : Ok P w K mg base 2 "need_two" spTwo) (O17 : Ok P w K mg base 4 "grows_to" spGrows) (O14 : Ok P w K mg base 3 "gaps_of" spGaps) : Ok P w K mg base 5 "least_rule" (spRow Sc.leastOf) := by
  refine mkOk D sc23 (fun vs H Q E h => ?_) (fun f cdv A outer s H vs Q E hr h => ⟨_, (pss_cons (ps_expr (pe_k O16 hr (by decide) (by rfl) (pa_cons (pv 0) (pa_cons (pv 1) pa_nil))))
      (pss_cons (ps_if (pt_not (pt_val (pe_k O17 hr (by decide) (by rfl) (pa_cons (pv 0) (pa_cons (pv 1) pa_nil))))) (pss_one (ps_ret pe_non)) pss_nil)
      (pss_cons (ps_set (i := 2) sc23.nd rfl (.inl rfl) (pe_lst pa_nil))
      (pss_cons (ps_for PassesOwn.never rfl (pi_zip (by rfl) B.zip (pa_cons (pe_k O14 hr (by decide) (by rfl) (pa_cons (pv 0) pa_nil)) (pa_cons (pe_k O14 hr (by decide) (by rfl) (pa_cons (pv 1) pa_nil)) pa_nil))) (pg_tup (by rfl) (pgs_cons (pg_name (i := 3) sc23.nd rfl (.inl rfl)) (pgs_cons (pg_name (i := 4) sc23.nd rfl (.inl rfl)) pgs_nil))) (pss_one (ps_expr (pe_bm PySem.F.plainAttrs_list PySem.F.slot_list_extend PySem.F.type_list_extend mt_extend (pv 2) (pa_cons (pe_op op_cat (pe_op op_rep (pe_lst (pa_cons pe_int pa_nil)) (pe_op op_sub (pv 3) pe_int)) (pe_lst (pa_cons (pe_op op_add (pe_op op_sub (pv 4) (pv 3)) pe_int) pa_nil))) pa_nil)))))
      (pss_one (ps_ret (pe_callTy call_tuple_of (by rfl) B.tuple (by decide +kernel) (pa_cons (pv 2) pa_nil)))))))), ?_⟩)
  · obtain ⟨a, _, rfl, _⟩ := h
    rfl
  · obtain ⟨u, v, rfl, h2, hN, hY⟩ := h
    have lu := h2.lu
    have lv := h2.lv
    refine ⟨_, rfl, _, rfl, u, v, rfl, h2.wu, by omega, h2.wv, by omega, fun H1 s1 => ?_⟩
    refine ⟨_, rfl, _, rfl, u, v, rfl, h2.wu, by omega, h2.wv, by omega, fun H2 s2 => ⟨_, rfl, ?_⟩⟩
    by_cases hg : grows u v = true
    · have hle := grows_le hg
      have hQ := hY hg
      rw [hg]
      refine iteF ?_
      refine ⟨Nat.zero_le _, fun q nq => ?_⟩
      have s3 : Same H2 (upd H2 q (.lst [])) := same_upd nq
      have hq0 : (upd H2 q (.lst [])) q = some (.lst []) := upd_same
      have nq0 : H q = none := (s1.trans s2).free nq
      generalize upd H2 q (.lst []) = H3 at s3 hq0
      refine ⟨_, rfl, u, rfl, h2.wu, by omega, fun H4 a s4 na ha => ⟨_, rfl, v, rfl, h2.wv, by omega, fun H5 b s5 nb hb => ?_⟩⟩
      refine ⟨a, b, _, _, rfl, SqL.of (s5 _ _ ha), SqL.of hb, ?_⟩
      have hab : q ≠ a := fun e => by
        rw [← e, hq0] at na
        cases na
      have hbb : q ≠ b := fun e => by
        rw [← e, s4 _ _ hq0] at nb
        cases nb
      refine for_it (walk_zip (zip_n (Sc.gaps u) (Sc.gaps v))) (fun i σ H' => Same H H' ∧ H' a = some (.lst (rowV (Sc.gaps u))) ∧ H' b = some (.lst (rowV (Sc.gaps v))) ∧ H' q = some (.lst (rowV (Sc.leastOf ((AB u v).take i)))) ∧ ∃ y z, σ = [some (.str (S u)), some (.str (S v)), some (.ref q), y, z])
        ⟨(s1.trans s2).trans (s3.trans (s4.trans s5)), s5 _ _ ha, hb, s5 _ _ (s4 _ _ hq0), none, none, rfl⟩ (fun i σ H' _ p => ⟨SqL.of p.2.1, SqL.of p.2.2.1⟩) (fun i x σ H6 H7 hi p y => ?_) (fun σ H' p => ?_)
      · obtain ⟨sm, ha6, hb6, hq6, y1, z1, rfl⟩ := p
        obtain ⟨T, e, rfl, hT, rfl, he⟩ := pair_at y
        obtain ⟨g1, g2, g3, g4⟩ := h2.ab (List.mem_of_getElem? he)
        have gle := hle e (List.mem_of_getElem? he)
        have hlen : (Sc.leastOf ((AB u v).take i)).length ≤ 3 * 40 := by
          refine Nat.le_trans (flat_len fun p hp => ?_) (Nat.mul_le_mul_left 3 (Nat.le_trans (by rw [List.length_take]; omega) h2.len))
          have := h2.ab (List.mem_of_mem_take hp)
          simp only [List.length_append, List.length_replicate, List.length_cons, List.length_nil]
          omega
        have hsn : Sc.leastOf ((AB u v).take (i + 1)) = Sc.leastOf ((AB u v).take i) ++ (List.replicate (e.1 - 1) 1 ++ [e.2 - e.1 + 1]) := by
          rw [Sc.take_snoc he]
          exact flat_snoc _ _
        have s7 : Same H6 (upd H6 T (.tup [.int (e.1 : Nat), .int (e.2 : Nat)])) := same_upd hT
        refine ⟨T, _, rfl, SqT.of upd_same, rfl, _, _, rfl, _, _, rfl, rfl, ?_⟩
        generalize upd H6 T (.tup [.int (e.1 : Nat), .int (e.2 : Nat)]) = H7 at s7
        refine ⟨_, rfl, .inl ⟨rfl, _, SqL.of (s7 _ _ hq6)⟩, ?_⟩
        refine ⟨(by decide : 1 ≤ sizeLine), fun o1 n1 => ?_⟩
        refine ⟨_, rfl, _, _, rfl, rfl, o1, _, _, rfl, rfl, upd_same, by omega, by omega, by rw [sizeLine_eq]; show 1 * _ ≤ _; omega, fun o2 n2 => ?_⟩
        rw [ones]
        have t1 := (same_upd (o := .lst [V.int 1]) n1).trans (same_upd (o := .lst (rowV (List.replicate (e.1 - 1) 1))) n2)
        have k2 : (upd (upd H7 o1 (.lst [V.int 1])) o2 (.lst (rowV (List.replicate (e.1 - 1) 1)))) o2 = some (.lst (rowV (List.replicate (e.1 - 1) 1))) := upd_same
        generalize upd (upd H7 o1 (.lst [V.int 1])) o2 (.lst (rowV (List.replicate (e.1 - 1) 1))) = H8 at t1 k2 ⊢
        refine ⟨_, rfl, _, rfl, _, _, rfl, rfl, _, _, rfl, rfl, (by decide : 1 ≤ sizeLine), fun o3 n3 => ?_⟩
        have ev : ([V.int ((e.2 : Int) - (e.1 : Int) + 1)] : List V) = rowV [e.2 - e.1 + 1] := by
          show [V.int _] = [V.int _]
          congr 2
          omega
        rw [ev]
        refine ⟨o2, o3, _, _, rfl, rfl, (same_upd n3) _ _ k2, upd_same, ?_, fun c n4 => ?_⟩
        · rw [rowV_len, rowV_len, List.length_replicate, sizeLine_eq]
          show _ + 1 ≤ _
          omega
        rw [← rowV_app]
        have t2 := t1.trans ((same_upd (o := .lst (rowV [e.2 - e.1 + 1])) n3).trans (same_upd (o := .lst (rowV (List.replicate (e.1 - 1) 1 ++ [e.2 - e.1 + 1]))) n4))
        have hc : (upd (upd H8 o3 (.lst (rowV [e.2 - e.1 + 1]))) c (.lst (rowV (List.replicate (e.1 - 1) 1 ++ [e.2 - e.1 + 1])))) c = some (.lst (rowV (List.replicate (e.1 - 1) 1 ++ [e.2 - e.1 + 1]))) := upd_same
        generalize upd (upd H8 o3 (.lst (rowV [e.2 - e.1 + 1]))) c (.lst (rowV (List.replicate (e.1 - 1) 1 ++ [e.2 - e.1 + 1]))) = H9 at t2 hc ⊢
        have s11 := s7.trans (t2)
        refine ⟨q, c, _, _, rfl, rfl, t2 _ _ (s7 _ _ hq6), hc, ?_, ?_⟩
        · rw [rowV_len, rowV_len, sizeLine_eq, List.length_append, List.length_replicate, List.length_singleton]
          omega
        refine ⟨same_at (sm.trans s11) nq0, ?_, ?_, ?_, _, _, rfl⟩
        · rw [upd_ne hab.symm]
          exact s11 _ _ ha6
        · rw [upd_ne hbb.symm]
          exact s11 _ _ hb6
        · rw [upd_same, hsn, ← rowV_app]
      · obtain ⟨sm, ha6, hb6, hq6, y1, z1, rfl⟩ := p
        rw [List.take_length] at hq6
        exact ⟨_, rfl, q, _, rfl, .inl ⟨SqL.of hq6, fun t nt => hQ _ t (sm.trans (same_upd nt)) upd_same⟩⟩
    · rw [Bool.not_eq_true] at hg
      rw [hg]
      exact iteT (hN hg H2 (s1.trans s2))
abbrev N24 : List Str := ["one", "other", "found", "a", "b"]
theorem sc24 : FnScope N24 ["one", "other"] (defScope (topS 24)) := ⟨rfl, rfl, rfl, by decide +kernel, rfl, by decide +kernel, by decide +kernel⟩
theorem ok_24 (B : Bs mg) (D : Df K mg "greatest_rule" 24 ["one", "other"]) (O16 : Ok P w K mg base 2 "need_two" spTwo) (O17 : Ok P w K mg base 4 "grows_to" spGrows) (O14 : Ok P w K mg base 3 "gaps_of" spGaps) : Ok P w K mg base 5 "greatest_rule" (spRow Sc.greatestOf) := by
  refine mkOk D sc24 (fun vs H Q E h => ?_) (fun f cdv A outer s H vs Q E hr h => ⟨_, (pss_cons (ps_expr (pe_k O16 hr (by decide) (by rfl) (pa_cons (pv 0) (pa_cons (pv 1) pa_nil))))
      (pss_cons (ps_if (pt_not (pt_val (pe_k O17 hr (by decide) (by rfl) (pa_cons (pv 0) (pa_cons (pv 1) pa_nil))))) (pss_one (ps_ret pe_non)) pss_nil)
      (pss_cons (ps_set (i := 2) sc24.nd rfl (.inl rfl) (pe_lst pa_nil))
      (pss_cons (ps_for PassesOwn.never rfl (pi_zip (by rfl) B.zip (pa_cons (pe_k O14 hr (by decide) (by rfl) (pa_cons (pv 0) pa_nil)) (pa_cons (pe_k O14 hr (by decide) (by rfl) (pa_cons (pv 1) pa_nil)) pa_nil))) (pg_tup (by rfl) (pgs_cons (pg_name (i := 3) sc24.nd rfl (.inl rfl)) (pgs_cons (pg_name (i := 4) sc24.nd rfl (.inl rfl)) pgs_nil))) (pss_one (ps_expr (pe_bm PySem.F.plainAttrs_list PySem.F.slot_list_extend PySem.F.type_list_extend mt_extend (pv 2) (pa_cons (pe_op op_cat (pe_lst (pa_cons (pe_op op_add (pe_op op_sub (pv 4) (pv 3)) pe_int) pa_nil)) (pe_op op_rep (pe_lst (pa_cons pe_int pa_nil)) (pe_op op_sub (pv 3) pe_int))) pa_nil)))))
      (pss_one (ps_ret (pe_callTy call_tuple_of (by rfl) B.tuple (by decide +kernel) (pa_cons (pv 2) pa_nil)))))))), ?_⟩)
  · obtain ⟨a, _, rfl, _⟩ := h
    rfl
  · obtain ⟨u, v, rfl, h2, hN, hY⟩ := h
    have lu := h2.lu
    have lv := h2.lv
    refine ⟨_, rfl, _, rfl, u, v, rfl, h2.wu, by omega, h2.wv, by omega, fun H1 s1 => ?_⟩
    refine ⟨_, rfl, _, rfl, u, v, rfl, h2.wu, by omega, h2.wv, by omega, fun H2 s2 => ⟨_, rfl, ?_⟩⟩
    by_cases hg : grows u v = true
    · have hle := grows_le hg
      have hQ := hY hg
      rw [hg]
      refine iteF ?_
      refine ⟨Nat.zero_le _, fun q nq => ?_⟩
      have s3 : Same H2 (upd H2 q (.lst [])) := same_upd nq
      have hq0 : (upd H2 q (.lst [])) q = some (.lst []) := upd_same
      have nq0 : H q = none := (s1.trans s2).free nq
      generalize upd H2 q (.lst []) = H3 at s3 hq0
      refine ⟨_, rfl, u, rfl, h2.wu, by omega, fun H4 a s4 na ha => ⟨_, rfl, v, rfl, h2.wv, by omega, fun H5 b s5 nb hb => ?_⟩⟩
      refine ⟨a, b, _, _, rfl, SqL.of (s5 _ _ ha), SqL.of hb, ?_⟩
      have hab : q ≠ a := fun e => by
        rw [← e, hq0] at na
        cases na
      have hbb : q ≠ b := fun e => by
        rw [← e, s4 _ _ hq0] at nb
        cases nb
      refine for_it (walk_zip (zip_n (Sc.gaps u) (Sc.gaps v))) (fun i σ H' => Same H H' ∧ H' a = some (.lst (rowV (Sc.gaps u))) ∧ H' b = some (.lst (rowV (Sc.gaps v))) ∧ H' q = some (.lst (rowV (Sc.greatestOf ((AB u v).take i)))) ∧ ∃ y z, σ = [some (.str (S u)), some (.str (S v)), some (.ref q), y, z])
        ⟨(s1.trans s2).trans (s3.trans (s4.trans s5)), s5 _ _ ha, hb, s5 _ _ (s4 _ _ hq0), none, none, rfl⟩ (fun i σ H' _ p => ⟨SqL.of p.2.1, SqL.of p.2.2.1⟩) (fun i x σ H6 H7 hi p y => ?_) (fun σ H' p => ?_)
      · obtain ⟨sm, ha6, hb6, hq6, y1, z1, rfl⟩ := p
        obtain ⟨T, e, rfl, hT, rfl, he⟩ := pair_at y
        obtain ⟨g1, g2, g3, g4⟩ := h2.ab (List.mem_of_getElem? he)
        have gle := hle e (List.mem_of_getElem? he)
        have hlen : (Sc.greatestOf ((AB u v).take i)).length ≤ 3 * 40 := by
          refine Nat.le_trans (flat_len fun p hp => ?_) (Nat.mul_le_mul_left 3 (Nat.le_trans (by rw [List.length_take]; omega) h2.len))
          have := h2.ab (List.mem_of_mem_take hp)
          simp only [List.length_append, List.length_replicate, List.length_cons, List.length_nil]
          omega
        have hsn : Sc.greatestOf ((AB u v).take (i + 1)) = Sc.greatestOf ((AB u v).take i) ++ ((e.2 - e.1 + 1) :: List.replicate (e.1 - 1) 1) := by
          rw [Sc.take_snoc he]
          exact flat_snoc _ _
        have s7 : Same H6 (upd H6 T (.tup [.int (e.1 : Nat), .int (e.2 : Nat)])) := same_upd hT
        refine ⟨T, _, rfl, SqT.of upd_same, rfl, _, _, rfl, _, _, rfl, rfl, ?_⟩
        generalize upd H6 T (.tup [.int (e.1 : Nat), .int (e.2 : Nat)]) = H7 at s7
        refine ⟨_, rfl, .inl ⟨rfl, _, SqL.of (s7 _ _ hq6)⟩, ?_⟩
        refine ⟨_, rfl, _, rfl, _, _, rfl, rfl, _, _, rfl, rfl, (by decide : 1 ≤ sizeLine), fun o3 n3 => ?_⟩
        have ev : ([V.int ((e.2 : Int) - (e.1 : Int) + 1)] : List V) = rowV [e.2 - e.1 + 1] := by
          show [V.int _] = [V.int _]
          congr 2
          omega
        rw [ev]
        have t0 := same_upd (o := .lst (rowV [e.2 - e.1 + 1])) n3
        have k3 : (upd H7 o3 (.lst (rowV [e.2 - e.1 + 1]))) o3 = some (.lst (rowV [e.2 - e.1 + 1])) := upd_same
        generalize upd H7 o3 (.lst (rowV [e.2 - e.1 + 1])) = H8 at t0 k3 ⊢
        refine ⟨(by decide : 1 ≤ sizeLine), fun o1 n1 => ?_⟩
        refine ⟨_, rfl, _, _, rfl, rfl, o1, _, _, rfl, rfl, upd_same, by omega, by omega, by rw [sizeLine_eq]; show 1 * _ ≤ _; omega, fun o2 n2 => ?_⟩
        rw [ones]
        refine ⟨o3, o2, _, _, rfl, rfl, ((same_upd n1).trans (same_upd n2)) _ _ k3, upd_same, ?_, fun c n4 => ?_⟩
        · rw [rowV_len, rowV_len, List.length_replicate, sizeLine_eq]
          show 1 + _ ≤ _
          omega
        rw [← rowV_app]
        have t2 := t0.trans (((same_upd (o := .lst [V.int 1]) n1).trans (same_upd (o := .lst (rowV (List.replicate (e.1 - 1) 1))) n2)).trans (same_upd (o := .lst (rowV ([e.2 - e.1 + 1] ++ List.replicate (e.1 - 1) 1))) n4))
        have hc : (upd (upd (upd H8 o1 (.lst [V.int 1])) o2 (.lst (rowV (List.replicate (e.1 - 1) 1)))) c (.lst (rowV ([e.2 - e.1 + 1] ++ List.replicate (e.1 - 1) 1)))) c = some (.lst (rowV ([e.2 - e.1 + 1] ++ List.replicate (e.1 - 1) 1))) := upd_same
        generalize upd (upd (upd H8 o1 (.lst [V.int 1])) o2 (.lst (rowV (List.replicate (e.1 - 1) 1)))) c (.lst (rowV ([e.2 - e.1 + 1] ++ List.replicate (e.1 - 1) 1))) = H9 at t2 hc ⊢
        have s11 := s7.trans (t2)
        refine ⟨q, c, _, _, rfl, rfl, t2 _ _ (s7 _ _ hq6), hc, ?_, ?_⟩
        · rw [rowV_len, rowV_len, sizeLine_eq, List.length_append, List.length_replicate, List.length_singleton]
          omega
        refine ⟨same_at (sm.trans s11) nq0, ?_, ?_, ?_, _, _, rfl⟩
        · rw [upd_ne hab.symm]
          exact s11 _ _ ha6
        · rw [upd_ne hbb.symm]
          exact s11 _ _ hb6
        · rw [upd_same, hsn, ← rowV_app]
          rfl
      · obtain ⟨sm, ha6, hb6, hq6, y1, z1, rfl⟩ := p
        rw [List.take_length] at hq6
        exact ⟨_, rfl, q, _, rfl, .inl ⟨SqL.of hq6, fun t nt => hQ _ t (sm.trans (same_upd nt)) upd_same⟩⟩
    · rw [Bool.not_eq_true] at hg
      rw [hg]
      exact iteT (hN hg H2 (s1.trans s2))
end Sd

/-! ScD8 -/
/-! row_at, said_row, _law_row_said. -/
namespace Sd
open PySem PySem.Spec PyProof.Rows L2 Sr
variable {P : Program} {w : World} {K : PySem.W.Frag} {mg : Str → Option Value} {base : Heap}
theorem get_ne_nil {α : Type} {l : List α} {i : Nat} {x : α} (h : l[i]? = some x) : l ≠ [] := fun e => by
  rw [e] at h
  simp at h
theorem fromF_go {f a b k : Nat} {s : List Nat} (hf : 1 ≤ f) (h : (Sc.fromF f a b)[k]? = some s) : f ≤ b - a ∧ Sc.fromF f a b = (Sc.sums a (b - f)).map (f :: ·) ++ Sc.fromF (f + 1) a b := by
  have h1 : f ≤ b - a := by
    rcases Nat.lt_or_ge (b - a) f with q | q
    · exact absurd (Sc.fromF_nil q) (get_ne_nil h)
    · exact q
  exact ⟨h1, Sc.fromF_step hf h1⟩
theorem fromF_next {f a b k : Nat} {s : List Nat} (hf : 1 ≤ f) (h : (Sc.fromF f a b)[k]? = some s) (hk : (Sc.sums a (b - f)).length ≤ k) : (Sc.fromF (f + 1) a b)[k - (Sc.sums a (b - f)).length]? = some s := by
  rw [(fromF_go hf h).2, List.getElem?_append_right (by rw [List.length_map]; exact hk), List.length_map] at h
  exact h
theorem fromF_here {f a b k : Nat} {s : List Nat} (hf : 1 ≤ f) (h : (Sc.fromF f a b)[k]? = some s) (hk : k < (Sc.sums a (b - f)).length) : ∃ s', s = f :: s' ∧ (Sc.sums a (b - f))[k]? = some s' := by
  rw [(fromF_go hf h).2, List.getElem?_append_left (by rw [List.length_map]; exact hk), List.getElem?_map] at h
  cases e : (Sc.sums a (b - f))[k]? with
  | none => rw [e] at h; cases h
  | some s' =>
    rw [e] at h
    exact ⟨s', (Option.some.inj h).symm, rfl⟩
theorem sums_count {a c : Nat} (hc : 1 ≤ c) : (Sc.sums (a + 1) c).length = Sc.Ch (c - 1) a := by
  obtain ⟨d, rfl⟩ : ∃ d, c = d + 1 := ⟨c - 1, by omega⟩
  exact Sc.sums_len d a
abbrev N25 : List Str := ["many", "whole", "rank", "found", "first"]
theorem sc25 : FnScope N25 ["many", "whole", "rank"] (defScope (topS 25)) := ⟨rfl, rfl, rfl, by decide +kernel, rfl, by decide +kernel, by decide +kernel⟩
def spRowAt : Sp := fun vs H Q _ => ∃ (m b k : Nat) (s : List Nat), vs = [.int (m : Nat), .int (b : Nat), .int (k : Nat)] ∧ m ≤ 60 ∧ b ≤ 60 ∧ (Sc.sums m b)[k]? = some s ∧ ∀ H' p, Same H H' → H p = none → H' p = some (.lst (rowV s)) → Q (.ref p) H'
theorem ok_rowat (B : Bs mg) (D : Df K mg "row_at" 25 ["many", "whole", "rank"]) (O20 : Ok P w K mg base 1 "choose" spChoose) : Ok P w K mg base 2 "row_at" spRowAt := by
  refine mkOk D sc25 (fun vs H Q E h => ?_) (fun f cdv A outer s H vs Q E hr h => ⟨_, (pss_cons (ps_set (i := 3) sc25.nd rfl (.inl rfl) (pe_lst pa_nil))
      (pss_cons (ps_while PassesOwn.never (pt_cmpR op_gt (pv 0) pe_int (nomark _)) (pss_cons (ps_set (i := 4) sc25.nd rfl (.inl rfl) pe_int)
      (pss_cons (ps_while PassesOwn.never (PW.pt (pw_and (pt_cmpR op_ge (pv 2) (pe_k O20 hr (by decide) (by rfl) (pa_cons (pe_op op_sub (pe_op op_sub (pv 1) (pv 4)) pe_int) (pa_cons (pe_op op_sub (pv 0) pe_int) pa_nil))) (nomark _)) (pw_and1 (pt_cmpR op_gt (pv 0) pe_int (nomark _))))) (pss_cons (ps_aug (i := 2) sc25.nd rfl (.inl rfl) (pe_k O20 hr (by decide) (by rfl) (pa_cons (pe_op op_sub (pe_op op_sub (pv 1) (pv 4)) pe_int) (pa_cons (pe_op op_sub (pv 0) pe_int) pa_nil))) ip_sub)
      (pss_one (ps_aug (i := 4) sc25.nd rfl (.inl rfl) pe_int ip_add))))
      (pss_cons (ps_if (pt_cmpR op_eq (pv 0) pe_int (nomark _)) (pss_one (ps_set (i := 4) sc25.nd rfl (.inl rfl) (pv 1))) pss_nil)
      (pss_cons (ps_expr (pe_bm PySem.F.plainAttrs_list PySem.F.slot_list_append PySem.F.type_list_append mt_append (pv 3) (pa_cons (pv 4) pa_nil)))
      (pss_one (ps_par (i := 0) (j := 1) (by rfl) sc25.nd rfl rfl (by decide) rfl rfl (pa_cons (pe_op op_sub (pv 0) pe_int) (pa_cons (pe_op op_sub (pv 1) (pv 4)) pa_nil)) (by rfl))))))))
      (pss_one (ps_ret (pv 3))))), ?_⟩)
  · obtain ⟨a, _, _, _, rfl, _⟩ := h
    rfl
  · obtain ⟨m0, b0, k0, full, rfl, hm, hb, hs, hQ⟩ := h
    refine ⟨Nat.zero_le _, fun q nq => ?_⟩
    refine ⟨fun μ σ H' => ∃ (b k : Nat) (pre t : List Nat) (z : Option V), Same H H' ∧ H' q = some (.lst (rowV pre)) ∧ (Sc.sums μ b)[k]? = some t ∧ pre ++ t = full ∧ μ ≤ 60 ∧ b ≤ 60 ∧ pre.length + μ ≤ 60 ∧ σ = [some (.int (μ : Nat)), some (.int (b : Nat)), some (.int (k : Nat)), some (.ref q), z],
      ⟨m0, b0, k0, [], full, none, same_upd nq, upd_same, hs, rfl, hm, hb, by show 0 + m0 ≤ 60; omega, rfl⟩, ?_⟩
    rintro m σ H1 ⟨b, k, pre, t, z, sm, hq, ht, hpt, hm6, hb6, hpl, rfl⟩
    have tm := (Sc.mem_sums m b t).mp (List.mem_of_getElem? ht)
    refine ⟨_, rfl, _, _, rfl, rfl, decide ((0 : Int) < (m : Nat)), rfl, ?_⟩
    by_cases hm0 : m = 0
    · subst hm0
      refine iteF ?_
      have e : t = [] := List.eq_nil_of_length_eq_zero tm.1
      rw [e, List.append_nil] at hpt
      rw [hpt] at hq
      exact ⟨_, rfl, hQ H1 q sm nq hq⟩
    · obtain ⟨a, rfl⟩ : ∃ a, m = a + 1 := ⟨m - 1, by omega⟩
      rw [decide_eq_true (show (0 : Int) < ((a + 1 : Nat) : Int) by omega)]
      refine iteT ⟨fun σ' H' => ∃ (b k : Nat) (pre t : List Nat) (z : Option V), Same H H' ∧ H' q = some (.lst (rowV pre)) ∧ (Sc.sums a b)[k]? = some t ∧ pre ++ t = full ∧ a ≤ 60 ∧ b ≤ 60 ∧ pre.length + a ≤ 60 ∧ σ' = [some (.int (a : Nat)), some (.int (b : Nat)), some (.int (k : Nat)), some (.ref q), z], fun σ' H' n => ⟨a, by omega, n⟩, ?_⟩
      refine ⟨fun μ σ H' => H' = H1 ∧ ∃ (g j : Nat), 1 ≤ g ∧ μ = b - g ∧ (Sc.fromF g a b)[j]? = some t ∧ (a = 0 → g = 1) ∧ σ = [some (.int ((a + 1 : Nat) : Int)), some (.int (b : Nat)), some (.int (j : Nat)), some (.ref q), some (.int (g : Nat))],
        ⟨b - 1, rfl, 1, k, Nat.le_refl _, rfl, by rw [Sc.fromF_one]; exact ht, fun _ => rfl, rfl⟩, ?_⟩
      rintro μ σ H2 ⟨rfl, g, j, hg, rfl, hj, ha1, rfl⟩
      obtain ⟨hgo, _⟩ := fromF_go hg hj
      have tl : t.length = a + 1 ∧ t.sum = b := ⟨tm.1, tm.2.2⟩
      by_cases ha : a = 0
      · subst ha
        have hg1 := ha1 rfl
        subst hg1
        have et : t = [b] := by
          obtain ⟨h1, h2⟩ := tl
          match t, h1, h2 with
          | [x], _, h2 => rw [show x = b by simpa using h2]
        have hj0 : j = 0 := by
          rw [Sc.fromF_one, Sc.sums_one (by omega)] at hj
          have := (List.getElem?_eq_some_iff.mp hj).1
          simpa using this
        subst hj0
        subst et
        refine ⟨_, rfl, _, rfl, _, rfl, _, _, rfl, rfl, _, _, rfl, rfl, _, rfl, _, _, rfl, rfl, _, _, rfl, by omega, _, _, rfl, rfl, true, ?_, iteT ?_⟩
        · show V.bl (decide (chI _ _ ≤ ((0 : Nat) : Int))) = V.bl true
          unfold chI
          rw [if_neg (by omega)]
          rfl
        refine ⟨_, rfl, _, _, rfl, rfl, false, rfl, iteF ?_⟩
        refine ⟨_, rfl, rfl, true, rfl, iteT ?_⟩
        refine ⟨_, rfl, ?_⟩
        refine ⟨_, rfl, .inl ⟨rfl, _, SqL.of hq⟩, _, rfl, q, _, _, rfl, rfl, hq, ?_, ?_⟩
        · rw [rowV_len, sizeLine_eq]
          omega
        refine ⟨_, rfl, _, _, rfl, rfl, _, rfl, _, rfl, _, _, rfl, rfl, _, _, rfl, ?_⟩
        refine ⟨0, 0, pre ++ [b], [], some (.int (b : Nat)), same_at sm nq, ?_, rfl, by rw [List.append_nil]; exact hpt, by omega, by omega, by rw [List.length_append, List.length_singleton]; omega, ?_⟩
        · rw [upd_same, rowV_snoc]
        · show [some (V.int (((0 + 1 : Nat) : Int) - 1)), some (V.int ((b : Int) - (b : Int))), _, _, _] = _
          rw [Int.sub_self]
          rfl
      · obtain ⟨c, rfl⟩ : ∃ c, a = c + 1 := ⟨a - 1, by omega⟩
        have hcnt := sums_count (a := c) (c := b - g) (by omega)
        have hci : chI ((b : Int) - (g : Int) - 1) (((c + 1 + 1 : Nat) : Int) - 2) = ((Sc.sums (c + 1) (b - g)).length : Nat) := by
          rw [hcnt, show ((b : Int) - (g : Int) - 1) = ((b - g - 1 : Nat) : Int) by omega, show (((c + 1 + 1 : Nat) : Int) - 2) = ((c : Nat) : Int) by omega, chI_nat]
        refine ⟨_, rfl, _, rfl, _, rfl, _, _, rfl, rfl, _, _, rfl, rfl, _, rfl, _, _, rfl, rfl, _, _, rfl, by omega, _, _, rfl, rfl, decide ((Sc.sums (c + 1) (b - g)).length ≤ j), ?_, ?_⟩
        · show V.bl (decide (chI _ _ ≤ ((j : Nat) : Int))) = _
          rw [hci]
          have : ((((Sc.sums (c + 1) (b - g)).length : Nat) : Int) ≤ ((j : Nat) : Int)) ↔ (Sc.sums (c + 1) (b - g)).length ≤ j := by omega
          simp only [this]
        by_cases hjl : (Sc.sums (c + 1) (b - g)).length ≤ j
        · rw [decide_eq_true hjl]
          refine iteT ⟨_, rfl, _, _, rfl, rfl, true, ?_, iteT ?_⟩
          · show V.bl (decide ((1 : Int) < ((c + 1 + 1 : Nat) : Int))) = V.bl true
            rw [decide_eq_true (by omega)]
          refine ⟨fun σ' H' => H' = H2 ∧ ∃ (g' j : Nat), 1 ≤ g' ∧ b - (g + 1) = b - g' ∧ (Sc.fromF g' (c + 1) b)[j]? = some t ∧ (c + 1 = 0 → g' = 1) ∧ σ' = [some (.int ((c + 1 + 1 : Nat) : Int)), some (.int (b : Nat)), some (.int (j : Nat)), some (.ref q), some (.int (g' : Nat))], fun σ' H' n => ⟨b - (g + 1), by omega, n⟩, ?_⟩
          refine ⟨_, rfl, _, rfl, _, rfl, _, _, rfl, rfl, _, _, rfl, rfl, _, rfl, _, _, rfl, rfl, _, _, rfl, by omega, _, _, rfl, rfl, _, rfl, _, _, rfl, rfl, rfl, g + 1, j - (Sc.sums (c + 1) (b - g)).length, by omega, rfl, fromF_next hg hj hjl, fun h => by omega, ?_⟩
          show [_, _, some (V.int (((j : Nat) : Int) - chI _ _)), _, _] = _
          rw [hci, Int.natCast_sub hjl]
          rfl
        · rw [decide_eq_false hjl]
          obtain ⟨t', rfl, ht'⟩ := fromF_here hg hj (by omega)
          refine iteF (iteF ?_)
          refine ⟨_, rfl, rfl, false, ?_, iteF ?_⟩
          · show V.bl (decide (V.int ((c + 1 + 1 : Nat) : Int) = V.int 1)) = V.bl false
            rw [decide_eq_false fun h => by have := V.int.inj h; omega]
          refine ⟨_, rfl, .inl ⟨rfl, _, SqL.of hq⟩, _, rfl, q, _, _, rfl, rfl, hq, ?_, ?_⟩
          · rw [rowV_len, sizeLine_eq]
            omega
          refine ⟨_, rfl, _, _, rfl, rfl, _, rfl, _, rfl, _, _, rfl, rfl, _, _, rfl, ?_⟩
          refine ⟨b - g, j, pre ++ [g], t', some (.int (g : Nat)), same_at sm nq, ?_, ht', by rw [List.append_assoc]; exact hpt, by omega, by omega, by rw [List.length_append, List.length_singleton]; omega, ?_⟩
          · rw [upd_same, rowV_snoc]
          · show [some (V.int (((c + 1 + 1 : Nat) : Int) - 1)), some (V.int ((b : Int) - (g : Int))), _, _, _] = _
            rw [show (((c + 1 + 1 : Nat) : Int) - 1) = ((c + 1 : Nat) : Int) by omega, Int.natCast_sub (by omega)]
/-! ### words said by rows -/
def spSaid : Sp := fun vs H Q _ => ∃ (t : Addr) (r l : List Nat), vs = [.ref t, .str (S l)] ∧ H t = some (.tup (rowV r)) ∧ Wd l ∧ l.length ≤ 45 ∧ (∀ x ∈ r, x ≤ 40) ∧ (∀ c, Sc.cn l c ≤ r.length) ∧ ∀ H', Same H H' → Q (.str (S (Sc.sd r Sc.k0 l))) H'
theorem cn_take_lt {l : List Nat} {i c : Nat} (h : l[i]? = some c) : Sc.cn (l.take i) c + 1 ≤ Sc.cn l c := by
  have e : l = l.take (i + 1) ++ l.drop (i + 1) := (List.take_append_drop _ _).symm
  have e2 : Sc.cn l c = Sc.cn (l.take (i + 1)) c + (l.drop (i + 1)).count c := by
    conv => lhs; rw [e]
    exact List.count_append
  rw [Sc.take_snoc h, Sc.cn_snoc, Sc.put_same] at e2
  omega
theorem at_row {r : List Nat} {i : Nat} (h : i < r.length) : ∃ n, r[i]? = some n ∧ r.getD i 0 = n := ⟨r[i], List.getElem?_eq_getElem h, by rw [List.getD_eq_getElem?_getD, List.getElem?_eq_getElem h] <;> rfl⟩
theorem sd_take {r l : List Nat} {i c n : Nat} (h : l[i]? = some c) (hn : r.getD (Sc.cn (l.take i) c) 0 = n) : Sc.sd r Sc.k0 (l.take (i + 1)) = Sc.sd r Sc.k0 (l.take i) ++ List.replicate n c := by
  rw [Sc.take_snoc h, Sc.sd_snoc]
  show _ ++ List.replicate (r.getD (0 + Sc.cn (l.take i) c) 0) c = _
  rw [Nat.zero_add, hn]
abbrev N43 : List Str := ["_law_told", "_law_word_here", "_law_found", "_law_known", "_law_letter"]
theorem sc43 : FnScope N43 ["_law_told", "_law_word_here"] (defScope (topS 43)) := ⟨rfl, rfl, rfl, by decide +kernel, rfl, by decide +kernel, by decide +kernel⟩
theorem ok_rowsaid (B : Bs mg) (D : Df K mg "_law_row_said" 43 ["_law_told", "_law_word_here"]) : Ok P w K mg base 1 "_law_row_said" spSaid := by
  refine mkOk D sc43 (fun vs H Q E h => ?_) (fun f cdv A outer s H vs Q E hr h => ⟨_, (pss_cons (ps_par (i := 2) (j := 3) (by rfl) sc43.nd rfl rfl (by decide) rfl rfl (pa_cons pe_str (pa_cons pe_dnewK pa_nil)) (by rfl))
      (pss_cons (ps_for PassesOwn.never rfl (pi_str (pv 1)) (pg_name (i := 4) sc43.nd rfl (.inl rfl)) (pss_cons (ps_dput (hu_of hr) (pv 3) (pv 4) (pe_op op_add (pe_dget2 (hu_of hr) (pv 3) (pv 4) pe_int ⟨by rfl, by rfl, by rfl, by rfl⟩) pe_int) rfl)
      (pss_one (ps_set (i := 2) sc43.nd rfl (.inl rfl) (pe_op op_add_str (pv 2) (pe_op op_mulS (pv 4) (pe_ix ix_tup (pv 0) (pe_op op_sub (pe_dget (hu_of hr) (pv 3) (pv 4) (fun _ _ => rfl)) pe_int) (fun _ _ => rfl))))))))
      (pss_one (ps_ret (pv 2))))), ?_⟩)
  · obtain ⟨a, _, _, rfl, _⟩ := h
    rfl
  · obtain ⟨t, r, l, rfl, ht, hW, hl, hr40, hcr, hQ⟩ := h
    refine fun d nd => ⟨_, _, rfl, ?_⟩
    refine ⟨_, rfl, S l, rfl, ?_⟩
    refine for_it walk_str (fun i σ H' => Same H H' ∧ Cnt H' d (Sc.cn (l.take i)) i ∧ (Sc.sd r Sc.k0 (l.take i)).length ≤ 40 * i ∧ ∃ z, σ = [some (.ref t), some (.str (S l)), some (.str (S (Sc.sd r Sc.k0 (l.take i)))), some (.ref d), z]) ?_ (fun _ _ _ _ _ => True.intro) (fun i x σ H1 H2 hi p y => ?_) (fun σ H' p => ?_)
    · exact ⟨same_upd nd, Cnt.nil, Nat.le_refl _, none, rfl⟩
    · obtain ⟨sm, hC, hsl, z, rfl⟩ := p
      obtain ⟨rfl, c, hc, rfl⟩ := y
      have hc := S_at hc
      rw [S_size] at hi
      have hlt := cn_take_lt hc
      have hlr := hcr c
      obtain ⟨n, hn, hnd⟩ := at_row (r := r) (i := Sc.cn (l.take i) c) (by omega)
      have hn40 := hr40 n (List.mem_of_getElem? hn)
      obtain ⟨o, ho, ho2⟩ := hC.get c
      refine ⟨_, rfl, d, rfl, hC.isD, _, rfl, o, ho, _, _, ho2, rfl, _, rfl, _, rfl, ?_⟩
      obtain ⟨H4, hput, hC4, hget, kvs, hk, e4⟩ := hC.put c (Sc.cn (l.take i) c + 1) (by omega)
      refine ⟨d, H4, rfl, hput, ?_⟩
      rw [← Sc.cn_snoc, ← Sc.take_snoc hc] at hC4
      have sm4 : Same H H4 := by
        rw [e4]
        exact same_at sm nd
      have hv : atI (rowV r) (((Sc.cn (l.take i) c + 1 : Nat) : Int) - 1) = some (.int (n : Nat)) := by
        rw [show (((Sc.cn (l.take i) c + 1 : Nat) : Int) - 1) = ((Sc.cn (l.take i) c : Nat) : Int) by omega]
        exact atI_nat (rowV_get hn)
      refine ⟨_, rfl, _, rfl, _, rfl, _, rfl, _, rfl, _, _, rfl, hget, _, _, rfl, rfl, _, _, _, _, rfl, rfl, SqT.of (sm4 _ _ ht), hv, c, _, rfl, rfl, by omega, by omega, ?_⟩
      rw [Int.toNat_natCast, rep_S]
      refine ⟨_, _, rfl, rfl, ?_, ?_⟩
      · rw [S_len, S_len, List.length_replicate, sizeLine_eq]
        omega
      · refine ⟨sm4, hC4, ?_, some (.str (S [c])), ?_⟩
        · rw [sd_take hc hnd, List.length_append, List.length_replicate]
          omega
        · rw [sd_take hc hnd, ← S_app]
          rfl
    · obtain ⟨sm, hC, hsl, z, rfl⟩ := p
      rw [S_size, List.take_length]
      exact ⟨_, rfl, hQ _ sm⟩
abbrev N30 : List Str := ["row", "word", "known", "found", "size", "letter"]
theorem sc30 : FnScope N30 ["row", "word"] (defScope (topS 30)) := ⟨rfl, rfl, rfl, by decide +kernel, rfl, by decide +kernel, by decide +kernel⟩
theorem ok_said (B : Bs mg) (D : Df K mg "said_row" 30 ["row", "word"]) : Ok P w K mg base 1 "said_row" spSaid := by
  refine mkOk D sc30 (fun vs H Q E h => ?_) (fun f cdv A outer s H vs Q E hr h => ⟨_, (pss_cons (ps_par3 (i := 2) (j := 3) (l := 4) (by rfl) sc30.nd rfl rfl rfl (by decide) (by decide) (by decide) rfl rfl rfl (pa_cons pe_dnewK (pa_cons (pe_lst pa_nil) (pa_cons pe_int pa_nil))) (by rfl))
      (pss_cons (ps_for PassesOwn.never rfl (pi_str (pv 1)) (pg_name (i := 5) sc30.nd rfl (.inl rfl)) (pss_cons (ps_dput (hu_of hr) (pv 2) (pv 5) (pe_op op_add (pe_dget2 (hu_of hr) (pv 2) (pv 5) pe_int ⟨by rfl, by rfl, by rfl, by rfl⟩) pe_int) rfl)
      (pss_cons (ps_aug (i := 4) sc30.nd rfl (.inl rfl) (pe_ix ix_tup (pv 0) (pe_op op_sub (pe_dget (hu_of hr) (pv 2) (pv 5) (fun _ _ => rfl)) pe_int) (fun _ _ => rfl)) ip_add)
      (pss_cons (ps_if (pt_cmpR op_gt (pv 4) pe_int (nomark _)) (pss_one (ps_ret pe_non)) pss_nil)
      (pss_one (ps_expr (pe_bm PySem.F.plainAttrs_list PySem.F.slot_list_append PySem.F.type_list_append mt_append (pv 3) (pa_cons (pe_op op_mulS (pv 5) (pe_ix ix_tup (pv 0) (pe_op op_sub (pe_dget (hu_of hr) (pv 2) (pv 5) (fun _ _ => rfl)) pe_int) (fun _ _ => rfl))) pa_nil))))))))
      (pss_one (ps_ret (pe_join pe_str (pv 3)))))), ?_⟩)
  · obtain ⟨a, _, _, rfl, _⟩ := h
    rfl
  · obtain ⟨t, r, l, rfl, ht, hW, hl, hr40, hcr, hQ⟩ := h
    refine fun d nd => ⟨Nat.zero_le _, fun q nq => ⟨_, _, _, rfl, ?_⟩⟩
    obtain ⟨hqd, nq0⟩ := fresh_two nq
    refine ⟨_, rfl, S l, rfl, ?_⟩
    refine for_it walk_str (fun i σ H' => Same H H' ∧ Cnt H' d (Sc.cn (l.take i)) i ∧ (∃ ls : List (List Nat), H' q = some (.lst ((ls.map S).map V.str)) ∧ ls.flatten = Sc.sd r Sc.k0 (l.take i) ∧ ls.length = i) ∧ (Sc.sd r Sc.k0 (l.take i)).length ≤ 40 * i ∧ ∃ z, σ = [some (.ref t), some (.str (S l)), some (.ref d), some (.ref q), some (.int ((Sc.sd r Sc.k0 (l.take i)).length : Nat)), z]) ?_ (fun _ _ _ _ _ => True.intro) (fun i x σ H1 H2 hi p y => ?_) (fun σ H' p => ?_)
    · refine ⟨(same_upd nd).trans (same_upd nq), ?_, ⟨[], upd_same, rfl, rfl⟩, Nat.le_refl _, none, rfl⟩
      refine Cnt.of (H := upd H d (.dK [])) Cnt.nil fun o e => ?_
      rw [upd_ne hqd]
      exact e
    · obtain ⟨sm, hC, ⟨ls, hq, hf, hll⟩, hsl, z, rfl⟩ := p
      obtain ⟨rfl, c, hc, rfl⟩ := y
      have hc := S_at hc
      rw [S_size] at hi
      have hlt := cn_take_lt hc
      have hlr := hcr c
      obtain ⟨n, hn, hnd⟩ := at_row (r := r) (i := Sc.cn (l.take i) c) (by omega)
      have hn40 := hr40 n (List.mem_of_getElem? hn)
      obtain ⟨o, ho, ho2⟩ := hC.get c
      refine ⟨_, rfl, d, rfl, hC.isD, _, rfl, o, ho, _, _, ho2, rfl, _, rfl, _, rfl, ?_⟩
      obtain ⟨H4, hput, hC4, hget, kvs, hk, e4⟩ := hC.put c (Sc.cn (l.take i) c + 1) (by omega)
      refine ⟨d, H4, rfl, hput, ?_⟩
      rw [← Sc.cn_snoc, ← Sc.take_snoc hc] at hC4
      have sm4 : Same H H4 := by
        rw [e4]
        exact same_at sm nd
      have hq4 : H4 q = some (.lst ((ls.map S).map V.str)) := by
        rw [e4, upd_ne (fun z => hqd z.symm)]
        exact hq
      have hv : atI (rowV r) (((Sc.cn (l.take i) c + 1 : Nat) : Int) - 1) = some (.int (n : Nat)) := by
        rw [show (((Sc.cn (l.take i) c + 1 : Nat) : Int) - 1) = ((Sc.cn (l.take i) c : Nat) : Int) by omega]
        exact atI_nat (rowV_get hn)
      have hnew : (Sc.sd r Sc.k0 (l.take (i + 1))).length = (Sc.sd r Sc.k0 (l.take i)).length + n := by
        rw [sd_take hc hnd, List.length_append, List.length_replicate]
      have ht4 := SqT.of (K := K) (sm4 _ _ ht)
      refine ⟨_, rfl, _, rfl, _, rfl, _, rfl, _, _, rfl, hget, _, _, rfl, rfl, _, _, _, _, rfl, rfl, ht4, hv, _, _, rfl, rfl, ?_⟩
      refine ⟨_, rfl, _, _, rfl, rfl, false, ?_, iteF ?_⟩
      · show V.bl (decide ((2000 : Int) < _ + ((n : Nat) : Int))) = V.bl false
        rw [decide_eq_false (by omega)]
      refine ⟨_, rfl, .inl ⟨rfl, _, SqL.of hq4⟩, _, rfl, _, rfl, _, rfl, _, rfl, _, _, rfl, hget, _, _, rfl, rfl, _, _, _, _, rfl, rfl, ht4, hv, c, _, rfl, rfl, by omega, by omega, ?_⟩
      rw [Int.toNat_natCast, rep_S]
      refine ⟨q, _, _, rfl, rfl, hq4, ?_, ?_⟩
      · rw [List.length_map, List.length_map, hll, sizeLine_eq]
        omega
      · refine ⟨same_at sm4 nq0, hC4.of fun o h => ?_, ⟨ls ++ [List.replicate n c], ?_, ?_, ?_⟩, by omega, some (.str (S [c])), ?_⟩
        · rw [upd_ne hqd]
          exact h
        · rw [upd_same, List.map_append, List.map_append]
          rfl
        · rw [List.flatten_append, hf, sd_take hc hnd]
          simp
        · rw [List.length_append, hll]
          rfl
        · rw [hnew, Int.natCast_add]
          rfl
    · obtain ⟨sm, hC, ⟨ls, hq, hf, hll⟩, hsl, z, rfl⟩ := p
      rw [S_size, List.take_length] at hf hsl
      refine ⟨⟨_, rfl⟩, _, rfl, _, q, _, rfl, rfl, .inl (SqL.of hq), ?_, ?_⟩
      · rw [List.map_map]
        have e1 : (Str.length ∘ S) = List.length := by
          funext l
          exact S_len l
        rw [e1, ← List.length_flatten, hf]
        show _ + (ls.map S).length * 0 ≤ _
        omega
      · rw [join_S, hf]
        exact hQ _ sm
end Sd

/-! ScD9 -/
/-! rank_of_row, rule_at. -/
namespace Sd
open PySem PySem.Spec PyProof.Rows L2 Sr
variable {P : Program} {w : World} {K : PySem.W.Frag} {mg : Str → Option Value} {base : Heap}
abbrev N27 : List Str := ["row", "rank", "whole", "at", "number", "many", "less"]
theorem sc27 : FnScope N27 ["row"] (defScope (topS 27)) := ⟨rfl, rfl, rfl, by decide +kernel, rfl, by decide +kernel, by decide +kernel⟩
def spRank : Sp := fun vs H Q _ => ∃ (t : Addr) (r : List Nat), vs = [.ref t] ∧ H t = some (.tup (rowV r)) ∧ r ≠ [] ∧ (∀ x ∈ r, 1 ≤ x) ∧ r.sum ≤ 60 ∧ ∀ H', Same H H' → Q (.int (Sc.rr r : Nat)) H'
theorem rowV_take (r : List Nat) (n : Nat) : (rowV r).take n = rowV (r.take n) := by
  unfold rowV
  rw [List.map_take]
theorem rowV_drop (r : List Nat) (n : Nat) : (rowV r).drop n = rowV (r.drop n) := by
  unfold rowV
  rw [List.map_drop]
theorem cut_last (r : List Nat) : cutV (rowV r) none (some (-1)) = rowV (r.take (r.length - 1)) := by
  unfold cutV
  rw [HT.sIx_none, rowV_len, List.drop_zero, Nat.sub_zero, rowV_take]
  have : HT.sIx r.length r.length (some (-1)) = r.length - 1 := by
    show (if (-1 : Int) < 0 then ((-1 : Int) + (r.length : Int)).toNat else min (-1 : Int).toNat r.length) = _
    rw [if_pos (by decide)]
    omega
  rw [this]
theorem sum_snoc (f : Nat → Nat) (j : Nat) : ((List.range (j + 1)).map f).sum = ((List.range j).map f).sum + f j := by
  rw [List.range_succ, List.map_append, List.sum_append]
  simp
theorem sumInt_row (r : List Nat) : (r.map fun (n : Nat) => (n : Int)).sum = (r.sum : Nat) := by
  induction r with
  | nil => rfl
  | cons a r ih =>
    rw [List.map_cons, List.sum_cons, List.sum_cons, ih, Int.natCast_add]
theorem ok_rank (B : Bs mg) (D : Df K mg "rank_of_row" 27 ["row"]) (O20 : Ok P w K mg base 1 "choose" spChoose) : Ok P w K mg base 2 "rank_of_row" spRank := by
  refine mkOk D sc27 (fun vs H Q E h => ?_) (fun f cdv A outer s H vs Q E hr h => ⟨_, (pss_cons (ps_par (i := 1) (j := 2) (by rfl) sc27.nd rfl rfl (by decide) rfl rfl (pa_cons pe_int (pa_cons (pe_callB (cr_sumT (by rfl)) (by rfl) B.sum (by decide +kernel) (pa_cons (pv 0) pa_nil)) pa_nil)) (by rfl))
      (pss_cons (ps_for PassesOwn.never rfl (pi_enumT (by rfl) B.enumerate (pa_cons (pe_slice sl_tupA (pv 0) po_none (po_some (pe_un un_neg pe_int))) pa_nil)) (pg_tup (by rfl) (pgs_cons (pg_name (i := 3) sc27.nd rfl (.inl rfl)) (pgs_cons (pg_name (i := 4) sc27.nd rfl (.inl rfl)) pgs_nil))) (pss_cons (ps_set (i := 5) sc27.nd rfl (.inl rfl) (pe_op op_sub (pe_callB call_len_seq (by rfl) B.len (by decide +kernel) (pa_cons (pv 0) pa_nil)) (pv 3)))
      (pss_cons (ps_for PassesOwn.never rfl (pi_range2 (by rfl) B.range (pa_cons pe_int (pa_cons (pv 4) pa_nil))) (pg_name (i := 6) sc27.nd rfl (.inl rfl)) (pss_one (ps_aug (i := 1) sc27.nd rfl (.inl rfl) (pe_k O20 hr (by decide) (by rfl) (pa_cons (pe_op op_sub (pe_op op_sub (pv 2) (pv 6)) pe_int) (pa_cons (pe_op op_sub (pv 5) pe_int) pa_nil))) ip_add)))
      (pss_one (ps_aug (i := 2) sc27.nd rfl (.inl rfl) (pv 4) ip_sub)))))
      (pss_one (ps_ret (pv 1))))), ?_⟩)
  · obtain ⟨a, _, rfl, _⟩ := h
    rfl
  · obtain ⟨t, r, rfl, ht, hne, h1, hs, hQ⟩ := h
    have hlen := Sc.len_le_sum h1
    have hpos : 0 < r.length := List.length_pos_iff.mpr hne
    refine ⟨_, rfl, t, _, rfl, by rw [← rowV_int]; exact SqT.of ht, _, _, rfl, ?_⟩
    rw [sumInt_row]
    refine ⟨_, rfl, _, rfl, _, rfl, t, _, rfl, SqT.of ht, fun h => ?_, fun _ p np => ?_⟩
    · exfalso
      obtain ⟨_, h⟩ := h
      rw [rowV_len] at h
      have : HT.sIx r.length r.length (some (-1)) = r.length - 1 := by
        show (if (-1 : Int) < 0 then ((-1 : Int) + (r.length : Int)).toNat else min (-1 : Int).toNat r.length) = _
        rw [if_pos (by decide)]
        omega
      have h2 : HT.sIx r.length r.length (some (-1)) = r.length := h
      omega
    have ec : cutV (rowV r) none (some (-1)) = rowV (r.take (r.length - 1)) := cut_last r
    have hp0 : (upd H p (.tup (cutV (rowV r) none (some (-1))))) p = some (.tup (rowV (r.take (r.length - 1)))) := by rw [upd_same, ec]
    refine ⟨p, rowV (r.take (r.length - 1)), rfl, SqT.of hp0, ?_⟩
    refine for_it walk_g (fun i σ H' => (Same H H' ∧ H' p = some (.tup (rowV (r.take (r.length - 1))))) ∧ i < r.length ∧ ∃ (acc : Nat) (a b c d : Option V), Sc.rr r = acc + Sc.rr (r.drop i) ∧ σ = [some (.ref t), some (.int (acc : Nat)), some (.int ((r.drop i).sum : Nat)), a, b, c, d]) ?_ (fun i σ H' _ q => SqT.of q.1.2) (fun i x σ H1 H2 hi q y => ?_) (fun σ H' q => ?_)
    · exact ⟨⟨same_upd np, hp0⟩, hpos, 0, none, none, none, none, by rw [Nat.zero_add]; rfl, rfl⟩
    · obtain ⟨sm, hir, acc, a, b, c, d, hacc, rfl⟩ := q
      obtain ⟨T, xs, rfl, hT, rfl, z, hz, rfl⟩ := y
      rw [rowV_len, List.length_take] at hi
      obtain ⟨n, hn, rfl⟩ := rowV_at hz
      have hn2 : r[i]? = some n := by
        rw [List.getElem?_take] at hn
        split at hn
        · exact hn
        · cases hn
      have hi2 : i + 1 < r.length := by omega
      have hd := Sc.drop_get hn2
      have hd2 := Sc.drop_get (List.getElem?_eq_getElem hi2)
      generalize r[i + 1] = m at hd2
      have hn1 := h1 n (List.mem_of_getElem? hn2)
      have hm1 : 1 ≤ m := h1 m (by
        have : m ∈ r.drop (i + 1) := by rw [hd2]; exact List.mem_cons_self
        exact List.mem_of_mem_drop this)
      have hsum : (r.drop i).sum = n + (m + (r.drop (i + 2)).sum) := by
        rw [hd, hd2, List.sum_cons, List.sum_cons]
      have hds : (r.drop i).sum ≤ 60 := by
        have : r.sum = (r.take i).sum + (r.drop i).sum := by
          conv => lhs; rw [← List.take_append_drop i r]
          rw [List.sum_append]
        omega
      have hl2 : (r.drop (i + 2)).length = r.length - (i + 2) := List.length_drop
      have hrr : Sc.rr (r.drop i) = ((List.range (n - 1)).map fun j => Sc.Ch ((r.drop i).sum - (j + 1) - 1) (r.drop (i + 2)).length).sum + Sc.rr (r.drop (i + 1)) := by
        have e : r.drop i = n :: m :: r.drop (i + 2) := by rw [hd, hd2]
        rw [e]
        show _ = _ + Sc.rr (r.drop (i + 1))
        rw [hd2]
        rfl
      have s2 : Same H1 (upd H1 T (.tup [.int (i : Nat), .int (n : Nat)])) := same_upd hT
      have htt : SqT K (upd H1 T (.tup [.int (i : Nat), .int (n : Nat)])) t (rowV r) := SqT.of (s2 _ _ (sm.1 _ _ ht))
      refine ⟨T, _, rfl, SqT.of upd_same, rfl, _, _, rfl, _, _, rfl, rfl, ?_⟩
      generalize upd H1 T (.tup [.int (i : Nat), .int (n : Nat)]) = H3 at s2 htt ⊢
      refine ⟨_, rfl, t, _, rfl, .inr htt, _, rfl, _, _, rfl, rfl, ?_⟩
      refine ⟨_, rfl, _, _, rfl, ⟨by omega, by omega, by omega, by omega⟩, ?_⟩
      refine for_it walk_range (fun j σ H' => H' = H3 ∧ ∃ (d : Option V), σ = [some (.ref t), some (.int ((acc + ((List.range j).map fun j => Sc.Ch ((r.drop i).sum - (j + 1) - 1) (r.drop (i + 2)).length).sum : Nat))), some (.int ((r.drop i).sum : Nat)), some (.int (i : Nat)), some (.int (n : Nat)), some (.int (((rowV r).length : Nat) - (i : Nat))), d]) ⟨rfl, d, rfl⟩ (fun _ _ _ _ _ => True.intro) (fun j x σ H4 H5 hj q y => ?_) (fun σ H4 q => ?_)
      · obtain ⟨rfl, d, rfl⟩ := q
        obtain ⟨rfl, rfl⟩ := y
        have hj2 : j < n - 1 := by omega
        refine ⟨_, rfl, _, rfl, _, rfl, _, _, rfl, rfl, _, _, rfl, rfl, _, rfl, _, _, rfl, rfl, _, _, rfl, by omega, _, _, rfl, rfl, rfl, some (.int (1 + (j : Nat))), ?_⟩
        rw [sum_snoc, ← Nat.add_assoc, Int.natCast_add (acc + _)]
        have e1 : ((((r.drop i).sum : Nat) : Int) - (1 + (j : Nat)) - 1) = (((r.drop i).sum - (j + 1) - 1 : Nat) : Int) := by omega
        have e2 : ((((rowV r).length : Nat) : Int) - (i : Nat) - 2) = (((r.drop (i + 2)).length : Nat) : Int) := by
          rw [rowV_len]
          omega
        rw [← chI_nat, ← e1, ← e2]
        rfl
      · obtain ⟨rfl, d, rfl⟩ := q
        have en : ((n : Int) - 1).toNat = n - 1 := by omega
        rw [en]
        refine ⟨_, rfl, _, rfl, _, _, rfl, rfl, ⟨sm.1.trans s2, s2 _ _ sm.2⟩, hi2, acc + ((List.range (n - 1)).map fun j => Sc.Ch ((r.drop i).sum - (j + 1) - 1) (r.drop (i + 2)).length).sum, some (.int (i : Nat)), some (.int (n : Nat)), some (.int (((rowV r).length : Nat) - (i : Nat))), d, by omega, ?_⟩
        have es : ((r.drop i).sum : Int) - (n : Nat) = ((r.drop (i + 1)).sum : Nat) := by
          rw [hd, List.sum_cons]
          omega
        rw [← es]
        rfl
    · obtain ⟨sm, hir, acc, a, b, c, d, hacc, rfl⟩ := q
      rw [rowV_len, List.length_take] at hir hacc
      rw [rowV_len, List.length_take]
      have e : min (r.length - 1) r.length = r.length - 1 := by omega
      rw [e] at hacc
      have hlast := Sc.drop_get (List.getElem?_eq_getElem (show r.length - 1 < r.length by omega))
      rw [show r.length - 1 + 1 = r.length by omega, List.drop_length] at hlast
      rw [hlast] at hacc
      refine ⟨_, rfl, ?_⟩
      rw [show acc = Sc.rr r from hacc.symm]
      exact hQ _ sm.1
end Sd

/-! ScD10 -/
/-! rule_at. -/
namespace Sd
open PySem PySem.Spec PyProof.Rows L2 Sr
variable {P : Program} {w : World} {K : PySem.W.Frag} {mg : Str → Option Value} {base : Heap}
/-- lists of numbers at these addresses, none of them q -/
abbrev PL (H : Hp) (q : Addr) (ts : List Addr) (rs : List (List Nat)) : Prop := Paired (fun t r => H t = some (.lst (rowV r)) ∧ t ≠ q) ts rs
theorem pl_same {H H' : Hp} {q : Addr} (s : ∀ b o, H b = some o → b ≠ q → H' b = some o) : ∀ {ts : List Addr} {rs : List (List Nat)}, PL H q ts rs → PL H' q ts rs
  | _, _, .nil => .nil
  | _, _, .cons r t => .cons ⟨s _ _ r.1 r.2, r.2⟩ (pl_same s t)
theorem pl_app {H : Hp} {q : Addr} : ∀ {ts us : List Addr} {xs ys : List (List Nat)}, PL H q ts xs → PL H q us ys → PL H q (ts ++ us) (xs ++ ys)
  | _, _, _, _, .nil, s => s
  | _, _, _, _, .cons r t, s => .cons r (pl_app t s)
theorem pl_rev {H : Hp} {q : Addr} : ∀ {ts : List Addr} {xs : List (List Nat)}, PL H q ts xs → PL H q ts.reverse xs.reverse
  | _, _, .nil => .nil
  | _, _, .cons r t => by
    rw [List.reverse_cons, List.reverse_cons]
    exact pl_app (pl_rev t) (.cons r .nil)
theorem pl_len {H : Hp} {q : Addr} : ∀ {ts : List Addr} {xs : List (List Nat)}, PL H q ts xs → ts.length = xs.length
  | _, _, .nil => rfl
  | _, _, .cons _ t => by rw [List.length_cons, List.length_cons, pl_len t]
theorem pl_get {H : Hp} {q : Addr} : ∀ {ts : List Addr} {xs : List (List Nat)} {i : Nat} {x : List Nat}, PL H q ts xs → xs[i]? = some x → ∃ t, ts[i]? = some t ∧ H t = some (.lst (rowV x)) ∧ t ≠ q
  | _, _, _, _, .nil, h => by simp at h
  | _, _, 0, _, .cons r _, h => by
    have e := Option.some.inj h
    subst e
    exact ⟨_, rfl, r⟩
  | _, _, i + 1, _, .cons _ t, h => pl_get (i := i) t (by simpa using h)
theorem dec_step {AB : List (Nat × Nat)} {j : Nat} {p : Nat × Nat} (h : AB[j]? = some p) (k : Nat) :
    Sc.dec (AB.drop j) k = ((Sc.dec (AB.drop (j + 1)) k).1 / Sc.ways p.1 p.2, (Sc.sums p.1 p.2).getD ((Sc.dec (AB.drop (j + 1)) k).1 % Sc.ways p.1 p.2) [] :: (Sc.dec (AB.drop (j + 1)) k).2) := by
  rw [Sc.drop_get h]
  rfl
abbrev N26 : List Str := ["one", "other", "rank", "pairs", "found", "left", "a", "b", "ways", "rest", "whole", "row"]
theorem sc26 : FnScope N26 ["one", "other", "rank"] (defScope (topS 26)) := ⟨rfl, rfl, rfl, by decide +kernel, rfl, by decide +kernel, by decide +kernel⟩
def spRuleAt : Sp := fun vs H Q _ => ∃ (u v : List Nat) (k : Nat), vs = [.str (S u), .str (S v), .int (k : Nat)] ∧ Two u v ∧ (grows u v = false → ∀ H', Same H H' → Q .non H') ∧
  (grows u v = true → ∀ s, (Sc.rowsOf (AB u v))[k]? = some s → ∀ H' t, Same H H' → H' t = some (.tup (rowV s)) → Q (.ref t) H') ∧ (grows u v = true → (Sc.rowsOf (AB u v)).length ≤ k → ∀ H', Same H H' → Q .non H')
theorem ok_ruleat (B : Bs mg) (D : Df K mg "rule_at" 26 ["one", "other", "rank"]) (O16 : Ok P w K mg base 2 "need_two" spTwo) (O7 : Ok P w K mg base 1 "is_int" spIsInt) (O17 : Ok P w K mg base 4 "grows_to" spGrows) (O14 : Ok P w K mg base 3 "gaps_of" spGaps) (O21 : Ok P w K mg base 2 "ways_between" spWays) (O25 : Ok P w K mg base 2 "row_at" spRowAt) : Ok P w K mg base 5 "rule_at" spRuleAt := by
  refine mkOk D sc26 (fun vs H Q E h => ?_) (fun f cdv A outer s H vs Q E hr h => ⟨_, (pss_cons (ps_expr (pe_k O16 hr (by decide) (by rfl) (pa_cons (pv 0) (pa_cons (pv 1) pa_nil))))
      (pss_cons (ps_if (PW.pt (pw_or (pt_not (pt_val (pe_k O7 hr (by decide) (by rfl) (pa_cons (pv 2) pa_nil)))) (pw_or1 (pt_cmpR op_lt (pv 2) pe_int (nomark _))))) pss_never pss_nil)
      (pss_cons (ps_if (pt_not (pt_val (pe_k O17 hr (by decide) (by rfl) (pa_cons (pv 0) (pa_cons (pv 1) pa_nil))))) (pss_one (ps_ret pe_non)) pss_nil)
      (pss_cons (ps_par3 (i := 3) (j := 4) (l := 5) (by rfl) sc26.nd rfl rfl rfl (by decide) (by decide) (by decide) rfl rfl rfl (pa_cons (pe_listZip (by rfl) (pa_cons (pe_k O14 hr (by decide) (by rfl) (pa_cons (pv 0) pa_nil)) (pa_cons (pe_k O14 hr (by decide) (by rfl) (pa_cons (pv 1) pa_nil)) pa_nil)) (by rfl) B.list (by rfl) B.zip) (pa_cons (pe_lst pa_nil) (pa_cons (pv 2) pa_nil))) (by rfl))
      (pss_cons (ps_for PassesOwn.never rfl (pi_list (pe_revL (pv 3))) (pg_tup (by rfl) (pgs_cons (pg_name (i := 6) sc26.nd rfl (.inl rfl)) (pgs_cons (pg_name (i := 7) sc26.nd rfl (.inl rfl)) pgs_nil))) (pss_cons (ps_set (i := 8) sc26.nd rfl (.inl rfl) (pe_k O21 hr (by decide) (by rfl) (pa_cons (pv 6) (pa_cons (pv 7) pa_nil))))
      (pss_cons (ps_par (i := 5) (j := 9) (by rfl) sc26.nd rfl rfl (by decide) rfl rfl (pa_cons (pe_op op_fdivW (pv 5) (pv 8)) (pa_cons (pe_op op_mod (pv 5) (pv 8)) pa_nil)) (by rfl))
      (pss_one (ps_expr (pe_bm PySem.F.plainAttrs_list PySem.F.slot_list_append PySem.F.type_list_append mt_append (pv 4) (pa_cons (pe_k O25 hr (by decide) (by rfl) (pa_cons (pv 6) (pa_cons (pv 7) (pa_cons (pv 9) pa_nil)))) pa_nil)))))))
      (pss_cons (ps_if (pt_cmpR op_gt (pv 5) pe_int (nomark _)) (pss_one (ps_ret pe_non)) pss_nil)
      (pss_cons (ps_set (i := 10) sc26.nd rfl (.inl rfl) (pe_lst pa_nil))
      (pss_cons (ps_for PassesOwn.never rfl (pi_list (pe_revL (pv 4))) (pg_name (i := 11) sc26.nd rfl (.inl rfl)) (pss_one (ps_expr (pe_bm PySem.F.plainAttrs_list PySem.F.slot_list_extend PySem.F.type_list_extend mt_extend (pv 10) (pa_cons (pv 11) pa_nil)))))
      (pss_one (ps_ret (pe_callTy call_tuple_of (by rfl) B.tuple (by decide +kernel) (pa_cons (pv 10) pa_nil)))))))))))), ?_⟩)
  · obtain ⟨a, _, _, rfl, _⟩ := h
    rfl
  · obtain ⟨u, v, k, rfl, h2, hN, hY, hF⟩ := h
    have lu := h2.lu
    have lv := h2.lv
    refine ⟨_, rfl, _, rfl, u, v, rfl, h2.wu, by omega, h2.wv, by omega, fun H1 s1 => ?_⟩
    refine ⟨_, rfl, (k : Int), rfl, true, rfl, iteF ?_⟩
    refine ⟨_, rfl, _, _, rfl, rfl, false, ?_, iteF ?_⟩
    · show V.bl (decide (((k : Nat) : Int) < 0)) = V.bl false
      rw [decide_eq_false (by omega)]
    refine ⟨_, rfl, _, rfl, u, v, rfl, h2.wu, by omega, h2.wv, by omega, fun H2 s2 => ⟨_, rfl, ?_⟩⟩
    by_cases hg : grows u v = true
    · have hle := grows_le hg
      have hab1 : ∀ p ∈ AB u v, 1 ≤ p.1 ∧ p.1 ≤ p.2 := fun p hp => ⟨(h2.ab hp).1, hle p hp⟩
      have hlen := h2.len
      rw [hg]
      refine iteF ?_
      refine ⟨_, rfl, u, rfl, h2.wu, by omega, fun H3 a s3 na ha => ⟨_, rfl, v, rfl, h2.wv, by omega, fun H4 b s4 nb hb => ?_⟩⟩
      refine ⟨a, b, _, _, rfl, SqL.of (s4 _ _ ha), SqL.of hb, fun H5 ps ts s5 nps hps htl hts => ?_⟩
      have hn : ts.length = (AB u v).length := by rw [htl, ← zip_n]
      have s05 : Same H H5 := s1.trans (s2.trans (s3.trans (s4.trans s5)))
      refine ⟨Nat.zero_le _, fun q nq => ⟨_, rfl, _, _, _, rfl, ?_⟩⟩
      refine ⟨_, rfl, ps, _, rfl, SqL.of ((same_upd nq) _ _ hps), fun rv nrv => ⟨rv, rfl, ⟨_, SqL.of upd_same⟩, ?_⟩⟩
      have s6 : Same H5 (upd (upd H5 q (.lst [])) rv (.lst (ts.map V.ref).reverse)) := (same_upd nq).trans (same_upd nrv)
      have hrv0 : (upd (upd H5 q (.lst [])) rv (.lst (ts.map V.ref).reverse)) rv = some (.lst (ts.map V.ref).reverse) := upd_same
      have hq0 : (upd (upd H5 q (.lst [])) rv (.lst (ts.map V.ref).reverse)) q = some (.lst []) := (same_upd nrv) _ _ upd_same
      have hrq : rv ≠ q := fun e => by
        rw [e, upd_same] at nrv
        cases nrv
      generalize upd (upd H5 q (.lst [])) rv (.lst (ts.map V.ref).reverse) = H6 at s6 hrv0 hq0 ⊢
      have hrl : (ts.map V.ref).reverse.length = (AB u v).length := by rw [List.length_reverse, List.length_map, hn]
      refine for_it walk_list (fun i σ H' => (∀ b o, H5 b = some o → H' b = some o) ∧ H' rv = some (.lst (ts.map V.ref).reverse) ∧ (∃ us : List Addr, H' q = some (.lst (us.map V.ref)) ∧ PL H' q us (Sc.dec ((AB u v).drop ((AB u v).length - i)) k).2.reverse) ∧ ∃ c d e g : Option V, σ = [some (.str (S u)), some (.str (S v)), some (.int (k : Nat)), some (.ref ps), some (.ref q), some (.int ((Sc.dec ((AB u v).drop ((AB u v).length - i)) k).1 : Nat)), c, d, e, g, none, none])
        ?_ (fun i σ H' _ p => SqL.of p.2.1) (fun i x σ H7 H8 hi p y => ?_) (fun σ H' p => ?_)
      · refine ⟨s6, hrv0, ⟨[], hq0, ?_⟩, none, none, none, none, ?_⟩
        · rw [Nat.sub_zero, List.drop_length]
          exact .nil
        · rw [Nat.sub_zero, List.drop_length]
          rfl
      · obtain ⟨sm, hrv, ⟨us, hq, hpl⟩, c0, d0, e0, g0, rfl⟩ := p
        obtain ⟨rfl, hx⟩ := y
        rw [hrl] at hi
        have hj : (AB u v).length - (i + 1) < (AB u v).length := by omega
        have gp := List.getElem?_eq_getElem hj
        generalize (AB u v)[(AB u v).length - (i + 1)] = p at gp
        have hpm := List.mem_of_getElem? gp
        obtain ⟨g1, g2, g3, g4⟩ := h2.ab hpm
        have gle := hle p hpm
        have hds := dec_step gp k
        rw [show (AB u v).length - (i + 1) + 1 = (AB u v).length - i by omega] at hds
        have hxt : ∃ t, x = V.ref t ∧ ts[(AB u v).length - (i + 1)]? = some t := by
          rw [List.getElem?_reverse (by rw [List.length_map, hn]; exact hi), List.length_map, hn, List.getElem?_map, show (AB u v).length - 1 - i = (AB u v).length - (i + 1) by omega] at hx
          cases e : ts[(AB u v).length - (i + 1)]? with
          | none => rw [e] at hx; cases hx
          | some t =>
            rw [e] at hx
            exact ⟨t, (Option.some.inj hx).symm, rfl⟩
        obtain ⟨t, rfl, htj⟩ := hxt
        obtain ⟨xa, xb, hxa, hxb, hto⟩ := hts _ _ htj
        obtain ⟨na1, hna1, rfl⟩ := rowV_at hxa
        obtain ⟨nb1, hnb1, rfl⟩ := rowV_at hxb
        have ep : p = (na1, nb1) := by
          have : (AB u v)[(AB u v).length - (i + 1)]? = some (na1, nb1) := List.getElem?_zip_eq_some.mpr ⟨hna1, hnb1⟩
          exact Option.some.inj (gp.symm.trans this)
        subst ep
        have hwp : 1 ≤ Sc.ways na1 nb1 := Sc.ways_pos g1 gle
        have hw1000 : Sc.ways na1 nb1 ≤ 1000 := h2.ways hpm
        have hsa := Sc.sums_at (k := (Sc.dec ((AB u v).drop ((AB u v).length - i)) k).1) g1 gle
        refine ⟨t, _, rfl, SqT.of (sm _ _ hto), rfl, _, _, rfl, _, _, rfl, rfl, ?_⟩
        refine ⟨_, rfl, _, rfl, na1, nb1, rfl, g1, g3, by omega, ?_⟩
        refine ⟨_, rfl, _, rfl, _, _, rfl, rfl, wide_div (b := 20) (by omega) (by omega) (by decide) (by decide), _, rfl, _, rfl, _, _, rfl, rfl, by omega, _, _, rfl, ?_⟩
        refine ⟨_, rfl, .inl ⟨rfl, _, SqL.of hq⟩, _, rfl, _, rfl, _, rfl, na1, nb1, _, _, ?_, by omega, by omega, hsa, fun H9 o s9 n9 ho => ?_⟩
        · rw [Int.natCast_emod]
          rfl
        have hul := pl_len hpl
        rw [List.length_reverse, Sc.dec_len, List.length_drop] at hul
        refine ⟨q, _, _, rfl, rfl, s9 _ _ hq, ?_, ?_⟩
        · rw [List.length_map, hul, sizeLine_eq]
          omega
        have hoq : o ≠ q := fun e => by
          rw [e, hq] at n9
          cases n9
        refine ⟨fun b o h => ?_, ?_, ⟨us ++ [o], ?_, ?_⟩, some (.int (na1 : Nat)), some (.int (nb1 : Nat)), some (.int (Sc.ways na1 nb1 : Nat)), some (.int (((Sc.dec ((AB u v).drop ((AB u v).length - i)) k).1 : Nat) % (Sc.ways na1 nb1 : Nat))), ?_⟩
        · rw [upd_ne (ne_of_none h nq)]
          exact s9 _ _ (sm _ _ h)
        · rw [upd_ne hrq]
          exact s9 _ _ hrv
        · rw [upd_same, List.map_append]
          rfl
        · rw [hds]
          show PL _ q (us ++ [o]) (List.reverse (_ :: _))
          rw [List.reverse_cons]
          refine pl_app (pl_same (fun b o h hb => ?_) hpl) (.cons ⟨?_, hoq⟩ .nil)
          · rw [upd_ne hb]
            exact s9 _ _ h
          · rw [upd_ne hoq]
            exact ho
        · rw [hds]
          show [_, _, _, _, _, some (V.int _), _, _, _, _, _, _] = [_, _, _, _, _, some (V.int (((Sc.dec ((AB u v).drop ((AB u v).length - i)) k).1 / Sc.ways na1 nb1 : Nat) : Int)), _, _, _, _, _, _]
          rw [Int.natCast_ediv]
      · obtain ⟨sm, hrv, ⟨us, hq, hpl⟩, c0, d0, e0, g0, rfl⟩ := p
        rw [hrl, Nat.sub_self, List.drop_zero] at hpl ⊢
        obtain ⟨hd1, hd2⟩ := Sc.dec_get (AB u v) k hab1
        have hrne := Sc.rows_ne hab1
        refine ⟨_, rfl, _, _, rfl, rfl, decide (0 < (Sc.dec (AB u v) k).1), ?_, ?_⟩
        · show V.bl (decide ((0 : Int) < ((Sc.dec (AB u v) k).1 : Nat))) = _
          have : ((0 : Int) < ((Sc.dec (AB u v) k).1 : Nat)) ↔ 0 < (Sc.dec (AB u v) k).1 := by omega
          simp only [this]
        have sm0 : Same H H' := s05.trans sm
        by_cases hk : (Sc.rowsOf (AB u v)).length ≤ k
        · rw [decide_eq_true (by rw [hd1]; exact Nat.div_pos hk hrne)]
          exact iteT (hF hg hk H' sm0)
        · rw [decide_eq_false (by rw [hd1, Nat.div_eq_of_lt (by omega)]; omega)]
          rw [Nat.mod_eq_of_lt (by omega)] at hd2
          have hres := hY hg _ hd2
          have hdl := Sc.dec_len (AB u v) k
          generalize Sc.dec (AB u v) k = dd at hpl hd2 hres hdl
          have hflen : dd.2.flatten.length ≤ 1000 := by
            have hm := List.mem_of_getElem? hd2
            have := (Sc.mem_rows2 (u := u) (v := v) (t := dd.2.flatten)).mp (by
              unfold Sc.rows2
              have hc : Sc.core u = Sc.core v := by
                unfold grows at hg
                rw [Bool.and_eq_true] at hg
                exact of_decide_eq_true hg.1
              rw [if_pos hc]
              exact hm)
            have h3 := last_le u
            rw [this.2.1]
            omega
          refine iteF ?_
          refine ⟨Nat.zero_le _, fun z nz => ?_⟩
          refine ⟨_, rfl, q, _, rfl, SqL.of ((same_upd nz) _ _ hq), fun rw' nrw => ⟨rw', rfl, ⟨_, SqL.of upd_same⟩, ?_⟩⟩
          have s8 : Same H' (upd (upd H' z (.lst [])) rw' (.lst (us.map V.ref).reverse)) := (same_upd nz).trans (same_upd nrw)
          have hrw0 : (upd (upd H' z (.lst [])) rw' (.lst (us.map V.ref).reverse)) rw' = some (.lst (us.map V.ref).reverse) := upd_same
          have hz0 : (upd (upd H' z (.lst [])) rw' (.lst (us.map V.ref).reverse)) z = some (.lst []) := (same_upd nrw) _ _ upd_same
          have hrz : rw' ≠ z := fun e => by
            rw [e, upd_same] at nrw
            cases nrw
          generalize upd (upd H' z (.lst [])) rw' (.lst (us.map V.ref).reverse) = H10 at s8 hrw0 hz0 ⊢
          have hplr := pl_rev hpl
          rw [List.reverse_reverse] at hplr
          have hurl : (us.map V.ref).reverse.length = dd.2.length := by
            rw [List.length_reverse, List.length_map, pl_len hpl, List.length_reverse]
          refine for_it walk_list (fun i σ H'' => (∀ b o, H' b = some o → H'' b = some o) ∧ H'' rw' = some (.lst (us.map V.ref).reverse) ∧ H'' z = some (.lst (rowV (dd.2.take i).flatten)) ∧ ∃ y : Option V, σ = [some (.str (S u)), some (.str (S v)), some (.int (k : Nat)), some (.ref ps), some (.ref q), some (.int (dd.1 : Nat)), c0, d0, e0, g0, some (.ref z), y])
            ⟨s8, hrw0, hz0, none, rfl⟩ (fun i σ H' _ p => SqL.of p.2.1) (fun i x σ H11 H12 hi p y => ?_) (fun σ H'' p => ?_)
          · obtain ⟨sm2, hrw, hz, y0, rfl⟩ := p
            obtain ⟨rfl, hx⟩ := y
            rw [hurl] at hi
            have gr := List.getElem?_eq_getElem hi
            generalize dd.2[i] = r at gr
            obtain ⟨t, ht, hto, htq⟩ := pl_get hplr gr
            rw [← List.map_reverse, List.getElem?_map, ht] at hx
            cases hx
            have hf1 := Sc.flatten_take_le dd.2 (i + 1)
            rw [Sc.take_snoc gr, List.flatten_append] at hf1
            simp only [List.flatten_cons, List.flatten_nil, List.append_nil, List.length_append] at hf1
            refine ⟨_, rfl, .inl ⟨rfl, _, SqL.of hz⟩, _, rfl, z, t, _, _, rfl, rfl, hz, sm2 _ _ hto, ?_, ?_⟩
            · rw [rowV_len, rowV_len, sizeLine_eq]
              omega
            · refine ⟨fun b o h => ?_, ?_, ?_, _, rfl⟩
              · rw [upd_ne (ne_of_none h nz)]
                exact sm2 _ _ h
              · rw [upd_ne hrz]
                exact hrw
              · rw [upd_same, ← rowV_app, Sc.take_snoc gr, List.flatten_append]
                simp
          · obtain ⟨sm2, hrw, hz, y0, rfl⟩ := p
            rw [hurl, List.take_length] at hz
            exact ⟨_, rfl, z, _, rfl, .inl ⟨SqL.of hz, fun l nl => hres _ l ((sm0.trans sm2).trans (same_upd nl)) upd_same⟩⟩
    · rw [Bool.not_eq_true] at hg
      rw [hg]
      exact iteT (hN hg H2 (s1.trans s2))
end Sd

/-! ScD11 -/
/-! rank_of_rule. -/
namespace Sd
open PySem PySem.Spec PyProof.Rows L2 Sr
variable {P : Program} {w : World} {K : PySem.W.Frag} {mg : Str → Option Value} {base : Heap}
theorem grows_core {u v : List Nat} (h : grows u v = true) : Sc.core u = Sc.core v := by
  unfold grows at h
  rw [Bool.and_eq_true] at h
  exact of_decide_eq_true h.1
theorem rows2_of {u v : List Nat} (h : grows u v = true) : Sc.rows2 u v = Sc.rowsOf (AB u v) := by
  unfold Sc.rows2
  rw [if_pos (grows_core h)]
theorem rows2_not {u v : List Nat} (h : grows u v = false) : Sc.rows2 u v = [] := by
  unfold Sc.rows2
  by_cases hc : Sc.core u = Sc.core v
  · rw [if_pos hc]
    refine Sc.rows_none ?_
    unfold grows at h
    rw [decide_eq_true hc, Bool.true_and] at h
    obtain ⟨p, hp, hq⟩ := List.all_eq_false.mp h
    refine ⟨p, hp, ?_⟩
    have : ¬ p.1 ≤ p.2 := fun e => hq (decide_eq_true e)
    omega
  · rw [if_neg hc]
theorem marks_neg1 (u : List Nat) : atI (rowV (Sc.marks u)) (-1) = some (.int (Sc.last u : Nat)) := by
  have h := Sc.marks_last u
  rcases last_cases (Sc.marks u) with e | ⟨l, x, e⟩
  · rw [e] at h
    simp at h
  · rw [e] at h ⊢
    rw [List.getLast?_concat] at h
    rw [rowV_snoc, Option.some.inj h]
    exact atI_last _ _
theorem cut_mid (r : List Nat) {a b : Nat} (h1 : a ≤ b) (h2 : b ≤ r.length) : cutV (rowV r) (some (a : Int)) (some (b : Int)) = rowV ((r.drop a).take (b - a)) := by
  unfold cutV
  rw [HT.sIx_nat, HT.sIx_nat, rowV_len, Nat.min_eq_left h2, Nat.min_eq_left (Nat.le_trans h1 h2), rowV_drop, rowV_take]
theorem cut_one (r : List Nat) : cutV (rowV r) (some 1) none = rowV (r.drop 1) := by
  unfold cutV
  have e : HT.sIx (rowV r).length 0 (some 1) = min 1 r.length := by
    rw [show (some (1 : Int)) = some ((1 : Nat) : Int) from rfl, HT.sIx_nat, rowV_len]
  rw [e, HT.sIx_none, rowV_len, rowV_drop, rowV_take]
  congr 1
  rcases r with _ | ⟨x, r⟩
  · rfl
  · have : min 1 (x :: r).length = 1 := by
      rw [List.length_cons]
      omega
    rw [this]
    show List.take (r.length + 1 - 1) r = r
    rw [Nat.add_sub_cancel, List.take_length]
abbrev N28 : List Str := ["one", "other", "told", "places", "rank", "start", "end", "whole"]
theorem sc28 : FnScope N28 ["one", "other", "told"] (defScope (topS 28)) := ⟨rfl, rfl, rfl, by decide +kernel, rfl, by decide +kernel, by decide +kernel⟩
def spRankRule : Sp := fun vs H Q _ => ∃ (u v r : List Nat) (t : Addr), vs = [.str (S u), .str (S v), .ref t] ∧ Two u v ∧ H t = some (.tup (rowV r)) ∧ r.length ≤ 1000 ∧ (∀ x ∈ r, 1 ≤ x ∧ x ≤ 40) ∧
  (∀ i : Nat, (Sc.rows2 u v)[i]? = some r → ∀ H', Same H H' → Q (.int (i : Nat)) H') ∧ (r ∉ Sc.rows2 u v → ∀ H', Same H H' → Q .non H')
theorem ok_rankrule (B : Bs mg) (D : Df K mg "rank_of_rule" 28 ["one", "other", "told"]) (O16 : Ok P w K mg base 2 "need_two" spTwo) (O29 : Ok P w K mg base 2 "need_row" (spNeed K)) (O11 : Ok P w K mg base 2 "marks_of" spMarks) (O17 : Ok P w K mg base 4 "grows_to" spGrows) (O30 : Ok P w K mg base 1 "said_row" spSaid) (O14 : Ok P w K mg base 3 "gaps_of" spGaps) (O21 : Ok P w K mg base 2 "ways_between" spWays) (O27 : Ok P w K mg base 2 "rank_of_row" spRank) : Ok P w K mg base 5 "rank_of_rule" spRankRule := by
  refine mkOk D sc28 (fun vs H Q E h => ?_) (fun f cdv A outer s H vs Q E hr h => ⟨_, (pss_cons (ps_expr (pe_k O16 hr (by decide) (by rfl) (pa_cons (pv 0) (pa_cons (pv 1) pa_nil))))
      (pss_cons (ps_expr (pe_k O29 hr (by decide) (by rfl) (pa_cons (pv 2) pa_nil)))
      (pss_cons (ps_set (i := 3) sc28.nd rfl (.inl rfl) (pe_k O11 hr (by decide) (by rfl) (pa_cons (pv 0) pa_nil)))
      (pss_cons (ps_if (PW.pt (pw_or (pt_cmpR op_ne (pe_callB call_len_seq (by rfl) B.len (by decide +kernel) (pa_cons (pv 2) pa_nil)) (pe_ix ix_list (pv 3) (pe_un un_neg pe_int) (fun _ _ => rfl)) (nomark _)) (pw_or (pt_not (pt_val (pe_k O17 hr (by decide) (by rfl) (pa_cons (pv 0) (pa_cons (pv 1) pa_nil))))) (pw_or1 (pt_cmpR op_ne (pe_k O30 hr (by decide) (by rfl) (pa_cons (pv 2) (pa_cons (pv 0) pa_nil))) (pv 1) (nomark _)))))) (pss_one (ps_ret pe_non)) pss_nil)
      (pss_cons (ps_set (i := 4) sc28.nd rfl (.inl rfl) pe_int)
      (pss_cons (ps_for PassesOwn.never rfl (pi_zip3 (by rfl) B.zip (pa_cons (pv 3) (pa_cons (pe_slice sl_list (pv 3) (po_some pe_int) po_none) (pa_cons (pe_k O14 hr (by decide) (by rfl) (pa_cons (pv 1) pa_nil)) pa_nil)))) (pg_tup (by rfl) (pgs_cons (pg_name (i := 5) sc28.nd rfl (.inl rfl)) (pgs_cons (pg_name (i := 6) sc28.nd rfl (.inl rfl)) (pgs_cons (pg_name (i := 7) sc28.nd rfl (.inl rfl)) pgs_nil)))) (pss_one (ps_set (i := 4) sc28.nd rfl (.inl rfl) (pe_op op_add (pe_op op_mul (pv 4) (pe_k O21 hr (by decide) (by rfl) (pa_cons (pe_op op_sub (pv 6) (pv 5)) (pa_cons (pv 7) pa_nil)))) (pe_k O27 hr (by decide) (by rfl) (pa_cons (pe_slice sl_tupA (pv 2) (po_some (pv 5)) (po_some (pv 6))) pa_nil))))))
      (pss_one (ps_ret (pv 4))))))))), ?_⟩)
  · obtain ⟨a, _, _, _, rfl, _⟩ := h
    rfl
  · obtain ⟨u, v, r, t, rfl, h2, ht, hrl, hr1, hY, hN⟩ := h
    have lu := h2.lu
    have lv := h2.lv
    have hp1 : ∀ x ∈ r, 1 ≤ x := fun x hx => (hr1 x hx).1
    refine ⟨_, rfl, _, rfl, u, v, rfl, h2.wu, by omega, h2.wv, by omega, fun H1 s1 => ?_⟩
    refine ⟨_, rfl, t, r, rfl, s1 _ _ ht, hrl, hp1, fun H2 s2 => ?_⟩
    refine ⟨_, rfl, u, rfl, h2.wu, by omega, fun H3 m s3 nm hm => ?_⟩
    have s03 := s1.trans (s2.trans s3)
    refine ⟨_, rfl, t, _, rfl, .inr (SqT.of (s03 _ _ ht)), _, rfl, _, rfl, m, _, _, _, rfl, rfl, SqL.of hm, marks_neg1 u, rfl, !decide (r.length = Sc.last u), ?_, ?_⟩
    · show V.bl (!decide (V.int ((rowV r).length : Nat) = V.int (Sc.last u : Nat))) = _
      have : (V.int ((rowV r).length : Nat) = V.int (Sc.last u : Nat)) ↔ r.length = Sc.last u := by
        rw [rowV_len]
        exact ⟨fun h => by have := V.int.inj h; omega, fun h => by rw [h]⟩
      simp only [this]
    by_cases hl : r.length = Sc.last u
    · rw [decide_eq_true hl]
      refine iteF ?_
      refine ⟨_, rfl, _, rfl, u, v, rfl, h2.wu, by omega, h2.wv, by omega, fun H4 s4 => ⟨_, rfl, ?_⟩⟩
      have s04 := s03.trans s4
      by_cases hg : grows u v = true
      · rw [hg]
        have hcore := grows_core hg
        refine iteF ?_
        refine ⟨_, rfl, _, rfl, t, r, u, rfl, s04 _ _ ht, h2.wu, by omega, fun x hx => (hr1 x hx).2, fun c => by rw [hl]; exact Sc.cn_le_last u c, fun H5 s5 => ⟨_, rfl, rfl, _, by rw [S_ne], ?_⟩⟩
        have s05 := s04.trans s5
        by_cases hs : Sc.sd r Sc.k0 u = v
        · rw [decide_eq_true hs]
          have hmem : r ∈ Sc.rows2 u v := Sc.mem_rows2.mpr ⟨hcore, hl, hp1, hs⟩
          have hbs := (Sc.sd_iff hcore hp1 hl).mp hs
          have hgl := Sc.gaps_eq_len hcore
          have hmlen := Sc.gaps_len u
          obtain ⟨m0, hm0⟩ := Sc.marks_cons u
          have hmpos : 0 < (Sc.marks u).length := by rw [hm0]; exact Nat.succ_pos _
          refine iteF ?_
          refine ⟨_, rfl, _, rfl, _, rfl, m, _, rfl, SqL.of (s5 _ _ (s4 _ _ hm)), fun z nz => ?_⟩
          refine ⟨_, rfl, v, rfl, h2.wv, by omega, fun H6 g s6 ng hgp => ?_⟩
          have hm6 : H6 m = some (.lst (rowV (Sc.marks u))) := s6 _ _ ((same_upd nz) _ _ (s5 _ _ (s4 _ _ hm)))
          have hz6 : H6 z = some (.lst (rowV ((Sc.marks u).drop 1))) := s6 _ _ (by
            rw [upd_same]
            exact congrArg _ (congrArg _ (cut_one _)))
          have s06 := s05.trans ((same_upd nz).trans s6)
          refine ⟨m, z, g, _, _, _, rfl, SqL.of hm6, SqL.of hz6, SqL.of hgp, ?_⟩
          have hn : min (min (rowV (Sc.marks u)).length (rowV ((Sc.marks u).drop 1)).length) (rowV (Sc.gaps v)).length = (AB u v).length := by
            rw [rowV_len, rowV_len, rowV_len, List.length_drop, List.length_zip]
            omega
          rw [hn]
          have hABl : (AB u v).length = (Sc.gaps u).length := by
            rw [List.length_zip]
            omega
          refine for_it walk_g (fun i σ H' => Same H6 H' ∧ ∃ (acc st : Nat) (a b c : Option V), (Sc.marks u)[i]? = some st ∧ Sc.rk 0 (AB u v) r = Sc.rk acc ((AB u v).drop i) (r.drop st) ∧ Sc.bsums ((Sc.gaps u).drop i) (r.drop st) = (Sc.gaps v).drop i ∧ σ = [some (.str (S u)), some (.str (S v)), some (.ref t), some (.ref m), some (.int (acc : Nat)), a, b, c])
            ?_ (fun i σ H' _ p => ⟨SqL.of (p.1 _ _ hm6), SqL.of (p.1 _ _ hz6), SqL.of (p.1 _ _ hgp)⟩) (fun i x σ H7 H8 hi p y => ?_) (fun σ H' p => ?_)
          · refine ⟨Same.refl _, 0, 0, none, none, none, by rw [hm0]; rfl, rfl, ?_, rfl⟩
            rw [List.drop_zero, List.drop_zero, List.drop_zero]
            exact hbs
          · obtain ⟨sm, acc, st, a, b, c, hst, hrk, hb, rfl⟩ := p
            obtain ⟨T, xs, rfl, hT, rfl, x1, x2, x3, hx1, hx2, hx3, rfl⟩ := y
            obtain ⟨st1, hst1, rfl⟩ := rowV_at hx1
            obtain ⟨en, hen, rfl⟩ := rowV_at hx2
            obtain ⟨gv, hgv, rfl⟩ := rowV_at hx3
            have e1 : st1 = st := Option.some.inj (hst1.symm.trans hst)
            subst e1
            rw [List.getElem?_drop, Nat.add_comm 1 i] at hen
            obtain ⟨hgu, hlt⟩ := Sc.marks_succ hst hen
            have hab : (AB u v)[i]? = some (en - st1, gv) := List.getElem?_zip_eq_some.mpr ⟨hgu, hgv⟩
            obtain ⟨g1, g2, g3, g4⟩ := h2.ab (List.mem_of_getElem? hab)
            have hw1000 : Sc.ways (en - st1) gv ≤ 1000 := h2.ways (List.mem_of_getElem? hab)
            have henl : en ≤ r.length := by
              rw [hl]
              exact Sc.le_last (List.mem_of_getElem? hen)
            rw [Sc.drop_get hab] at hrk
            rw [Sc.drop_get hgu, Sc.drop_get hgv] at hb
            obtain ⟨hb1, hb2⟩ := List.cons.inj (show ((r.drop st1).take (en - st1)).sum :: Sc.bsums ((Sc.gaps u).drop (i + 1)) ((r.drop st1).drop (en - st1)) = gv :: (Sc.gaps v).drop (i + 1) from hb)
            have hrk2 : Sc.rk 0 (AB u v) r = Sc.rk (acc * Sc.ways (en - st1) gv + Sc.rr ((r.drop st1).take (en - st1))) ((AB u v).drop (i + 1)) ((r.drop st1).drop (en - st1)) := hrk
            rw [List.drop_drop, show st1 + (en - st1) = en by omega] at hb2 hrk2
            have s8 : Same H7 (upd H7 T (.tup [.int (st1 : Nat), .int (en : Nat), .int (gv : Nat)])) := same_upd hT
            refine ⟨T, _, rfl, SqT.of upd_same, rfl, _, _, rfl, _, _, rfl, _, _, rfl, rfl, ?_⟩
            generalize upd H7 T (.tup [.int (st1 : Nat), .int (en : Nat), .int (gv : Nat)]) = H9 at s8 ⊢
            have ht9 : H9 t = some (.tup (rowV r)) := s8 _ _ (sm _ _ (s06 _ _ ht))
            refine ⟨_, rfl, _, rfl, _, rfl, _, _, rfl, rfl, _, rfl, en - st1, gv, ?_, g1, g3, by omega, _, _, rfl, rfl, .inr ⟨by omega, by omega⟩, ?_⟩
            · rw [Int.natCast_sub (by omega)]
              rfl
            have hsl : ((r.drop st1).take (en - st1)).length = en - st1 := by
              rw [List.length_take, List.length_drop]
              omega
            have hne : (r.drop st1).take (en - st1) ≠ [] := fun e => by
              rw [e] at hsl
              simp only [List.length_nil] at hsl
              omega
            have hpos : ∀ x ∈ (r.drop st1).take (en - st1), 1 ≤ x := fun x hx => hp1 x (List.mem_of_mem_drop (List.mem_of_mem_take hx))
            have fin : ∀ H10, Same H9 H10 → Same H6 H10 ∧ ∃ (acc' st : Nat) (a b c : Option V), (Sc.marks u)[i + 1]? = some st ∧ Sc.rk 0 (AB u v) r = Sc.rk acc' ((AB u v).drop (i + 1)) (r.drop st) ∧ Sc.bsums ((Sc.gaps u).drop (i + 1)) (r.drop st) = (Sc.gaps v).drop (i + 1) ∧
                [some (V.str (S u)), some (.str (S v)), some (.ref t), some (.ref m), some (.int (((acc : Nat) : Int) * ((Sc.ways (en - st1) gv : Nat) : Int) + ((Sc.rr ((r.drop st1).take (en - st1)) : Nat) : Int))), some (.int (st1 : Nat)), some (.int (en : Nat)), some (.int (gv : Nat))] = [some (.str (S u)), some (.str (S v)), some (.ref t), some (.ref m), some (.int (acc' : Nat)), a, b, c] := by
              intro H10 s10
              refine ⟨sm.trans (s8.trans s10), _, en, some (.int (st1 : Nat)), some (.int (en : Nat)), some (.int (gv : Nat)), hen, hrk2, hb2, ?_⟩
              rw [Int.natCast_add, Int.natCast_mul]
            refine ⟨_, rfl, _, rfl, _, rfl, _, rfl, _, rfl, t, _, rfl, SqT.of ht9, fun hw => ?_, fun _ p np => ?_⟩
            · obtain ⟨hw1, hw2⟩ := hw
              have hw1 : HT.sIx (rowV r).length 0 (some ((st1 : Nat) : Int)) = 0 := hw1
              have hw2 : HT.sIx (rowV r).length (rowV r).length (some ((en : Nat) : Int)) = (rowV r).length := hw2
              rw [HT.sIx_nat, rowV_len] at hw1 hw2
              have e0 : st1 = 0 := by omega
              have e1 : en = r.length := by omega
              have e2 : (r.drop st1).take (en - st1) = r := by rw [e0, e1, List.drop_zero, Nat.sub_zero, List.take_length]
              exact ⟨t, (r.drop st1).take (en - st1), rfl, by rw [e2]; exact ht9, hne, hpos, by omega, fun H10 s10 => ⟨_, _, rfl, rfl, fin H10 s10⟩⟩
            · exact ⟨p, (r.drop st1).take (en - st1), rfl, by rw [upd_same]; exact congrArg _ (congrArg _ (cut_mid r (by omega) henl)), hne, hpos, by omega, fun H10 s10 => ⟨_, _, rfl, rfl, fin H10 ((same_upd np).trans s10)⟩⟩
          · obtain ⟨sm, acc, st, a, b, c, hst, hrk, hb, rfl⟩ := p
            rw [List.drop_length] at hrk
            have hrk : Sc.rk 0 (AB u v) r = acc := hrk
            rw [rows2_of hg] at hmem
            obtain ⟨j, hj1, hj2⟩ := Sc.rk_get (AB u v) 0 r (fun p hp => (h2.ab hp).1) hmem
            rw [Nat.zero_mul, Nat.zero_add, hrk] at hj1
            refine ⟨_, rfl, ?_⟩
            rw [hj1]
            exact hY j (by rw [rows2_of hg]; exact hj2) _ (s06.trans sm)
        · rw [decide_eq_false hs]
          exact iteT (hN (fun q => hs (Sc.mem_rows2.mp q).2.2.2) _ s05)
      · rw [Bool.not_eq_true] at hg
        rw [hg]
        exact iteT (iteT (hN (by rw [rows2_not hg]; simp) _ s04))
    · rw [decide_eq_false hl]
      exact iteT (iteT (hN (fun q => hl (Sc.mem_rows2.mp q).2.1) _ s03))
end Sd

/-! ScD12 -/
/-! The law's draws: _law_taken, _law_pick, _law_word. -/
namespace Sd
open PySem PySem.Spec PyProof.Rows L2 Sr
variable {P : Program} {w : World} {K : PySem.W.Frag} {mg : Str → Option Value} {base : Heap}
/-- all but p is as it was -/
def Sv (p : Addr) (H H' : Hp) : Prop := ∀ b o, H b = some o → b ≠ p → H' b = some o
theorem Sv.refl (p : Addr) (H : Hp) : Sv p H H := fun _ _ h _ => h
theorem Sv.trans {p : Addr} {H H1 H2 : Hp} (a : Sv p H H1) (b : Sv p H1 H2) : Sv p H H2 := fun c o h n => b c o (a c o h n) n
theorem Sv.same {p : Addr} {H H' : Hp} (s : Same H H') : Sv p H H' := fun b o h _ => s b o h
theorem Sv.upd {p : Addr} {H : Hp} {o : HO} : Sv p H (upd H p o) := fun b x h n => by
  rw [upd_ne n]
  exact h
/-- the list the law draws by -/
def lrow (sc : Addr) (i : Nat) (x c : Int) : List V := [.ref sc, .int (i : Nat), .int x, .int c]
structure LR (K : PySem.W.Frag) (H : Hp) (p sc : Addr) (ns : List Int) : Prop where
  row : ∃ (i : Nat) (x c : Int), H p = some (.lst (lrow sc i x c))
  scr : ∀ H', Sv p H H' → SqL K H' sc (ns.map V.int)
theorem LR.sv {H H' : Hp} {p sc : Addr} {ns : List Int} (l : LR K H p sc ns) (s : Sv p H H') (r : ∃ (i : Nat) (x c : Int), H' p = some (.lst (lrow sc i x c))) : LR K H' p sc ns := ⟨r, fun H2 s2 => l.scr H2 (s.trans s2)⟩
theorem LR.put {H : Hp} {p sc : Addr} {ns : List Int} (l : LR K H p sc ns) (i : Nat) (x c : Int) : LR K (upd H p (.lst (lrow sc i x c))) p sc ns := l.sv Sv.upd ⟨i, x, c, upd_same⟩
theorem LR.same {H H' : Hp} {p sc : Addr} {ns : List Int} (l : LR K H p sc ns) (s : Same H H') : LR K H' p sc ns := by
  obtain ⟨i, x, c, h⟩ := l.row
  exact l.sv (Sv.same s) ⟨i, x, c, s _ _ h⟩
theorem LR.start {H : Hp} {p sc : Addr} {ns : List Int} (h : SqL K H sc (ns.map V.int)) (np : H p = none) : LR K (upd H p (.lst (lrow sc 0 4610 0))) p sc ns := by
  refine ⟨⟨0, 4610, 0, upd_same⟩, fun H' s => ?_⟩
  have go : ∀ o, H sc = some o → H' sc = some o := fun o e => by
    have n := ne_of_none e np
    exact s _ _ (by rw [upd_ne n]; exact e) n
  rcases h with (h | ⟨o, h⟩) | h
  · exact .inl (.inl (go _ h))
  · exact .inl (.inr ⟨o, go _ h⟩)
  · exact .inr h
/-- what LR says of another address -/
theorem LR.lst {H : Hp} {p sc : Addr} {ns : List Int} (l : LR K H p sc ns) : ∃ vs, H p = some (.lst vs) := by
  obtain ⟨i, x, c, h⟩ := l.row
  exact ⟨_, h⟩
theorem TupL.sv {α : Type} {f : α → List V} {H H' : Hp} {p q : Addr} {xs : List α} (h : TupL f H q xs) (s : Sv p H H') (n : q ≠ p) {vs : List V} (hp : H p = some (.lst vs)) : TupL f H' q xs := by
  obtain ⟨ts, h1, h2⟩ := h
  refine ⟨ts, s _ _ h1 n, ?_⟩
  clear h1
  induction h2 with
  | nil => exact .nil
  | @cons t x ts xs r _ ih =>
    refine .cons (s _ _ r fun e => ?_) ih
    rw [e, hp] at r
    cases r
abbrev N32 : List Str := ["_law_row", "_law_many", "_law_found", "_law_cell"]
theorem sc32 : FnScope N32 ["_law_row", "_law_many"] (defScope (topS 32)) := ⟨rfl, rfl, rfl, by decide +kernel, rfl, by decide +kernel, by decide +kernel⟩
def spTaken (K : PySem.W.Frag) : Sp := fun vs H Q _ => ∃ (p sc : Addr) (ns : List Int) (m : Nat), vs = [.ref p, .int (m : Nat)] ∧ 1 ≤ m ∧ m ≤ 1000000000 ∧ LR K H p sc ns ∧ ∀ H' (r : Nat), r < m → Sv p H H' → LR K H' p sc ns → Q (.int (r : Nat)) H'
theorem mod_nat {a : Int} {m : Nat} (h : 1 ≤ m) : ∃ r : Nat, r < m ∧ a % (m : Int) = (r : Nat) := by
  have h1 := Int.emod_nonneg a (show (m : Int) ≠ 0 by omega)
  have h2 := Int.emod_lt_of_pos a (show (0 : Int) < m by omega)
  exact ⟨(a % (m : Int)).toNat, by omega, by omega⟩
theorem ok_taken (B : Bs mg) (D : Df K mg "_law_taken" 32 ["_law_row", "_law_many"]) : Ok P w K mg base 1 "_law_taken" (spTaken K) := by
  refine mkOk D sc32 (fun vs H Q E h => ?_) (fun f cdv A outer s H vs Q E hr h => ⟨_, (pss_cons (ps_if (pt_cmpR op_gt (pe_ix ix_list (pv 0) pe_int (fun _ _ => rfl)) pe_int (nomark _)) (pss_cons (ps_set (i := 2) sc32.nd rfl (.inl rfl) (pe_op op_mod (pe_callTy call_int1 (by rfl) B.int (by decide +kernel) (pa_cons (pe_ix ix_list (pv 0) pe_int (fun _ _ => rfl)) pa_nil)) (pv 1)))
      (pss_cons (ps_asg (pe_op op_fdivW (pe_ix ix_list (pv 0) pe_int (fun _ _ => rfl)) (pv 1)) (pg_sub (pv 0) pe_int set_list))
      (pss_one (ps_ret (pv 2))))) pss_nil)
      (pss_cons (ps_asg (pe_op op_add (pe_ix ix_list (pv 0) pe_int (fun _ _ => rfl)) pe_int) (pg_sub (pv 0) pe_int set_list))
      (pss_cons (ps_if (pt_cmpR op_gt (pe_ix ix_list (pv 0) pe_int (fun _ _ => rfl)) (pe_callB call_len_seq (by rfl) B.len (by decide +kernel) (pa_cons (pe_ix ix_list (pv 0) pe_int (fun _ _ => rfl)) pa_nil)) (nomark _)) (pss_cons (ps_asg (pe_op op_mod (pe_callTy call_int1 (by rfl) B.int (by decide +kernel) (pa_cons (pe_op op_add (pe_op op_mul (pe_ix ix_list (pv 0) pe_int (fun _ _ => rfl)) pe_int) pe_int) pa_nil)) pe_int) (pg_sub (pv 0) pe_int set_list))
      (pss_one (ps_ret (pe_op op_mod (pe_callTy call_int1 (by rfl) B.int (by decide +kernel) (pa_cons (pe_op op_fdivW (pe_ix ix_list (pv 0) pe_int (fun _ _ => rfl)) pe_int) pa_nil)) (pv 1))))) pss_nil)
      (pss_cons (ps_set (i := 3) sc32.nd rfl (.inl rfl) (pe_ix ix_list (pe_ix ix_list (pv 0) pe_int (fun _ _ => rfl)) (pe_op op_sub (pe_ix ix_list (pv 0) pe_int (fun _ _ => rfl)) pe_int) (fun _ _ => rfl)))
      (pss_cons (ps_asg (pe_op op_mod (pe_callTy call_int1 (by rfl) B.int (by decide +kernel) (pa_cons (pe_op op_add (pe_op op_add (pe_op op_mul (pe_ix ix_list (pv 0) pe_int (fun _ _ => rfl)) pe_int) (pv 3)) pe_int) pa_nil)) pe_int) (pg_sub (pv 0) pe_int set_list))
      (pss_cons (ps_if (pt_cmpR op_ge (pv 3) (pe_op op_pow pe_int pe_int) (nomark _)) (pss_one (ps_asg (pe_op op_fdivW (pv 3) (pv 1)) (pg_sub (pv 0) pe_int set_list))) pss_nil)
      (pss_one (ps_ret (pe_op op_mod (pe_callTy call_int1 (by rfl) B.int (by decide +kernel) (pa_cons (pv 3) pa_nil)) (pv 1)))))))))), ?_⟩)
  · obtain ⟨a, _, _, _, rfl, _⟩ := h
    rfl
  · obtain ⟨p, sc, ns, m, rfl, hm1, hm2, hL, hQ⟩ := h
    obtain ⟨i, x, c, hp⟩ := hL.row
    have wd : CDivW c (m : Int) := wide_div (b := 30) (by omega) (by omega) (by decide) (by decide)
    refine ⟨_, rfl, p, _, _, _, rfl, rfl, SqL.of hp, rfl, _, _, rfl, rfl, decide (0 < c), rfl, ?_⟩
    by_cases hc : 0 < c
    · rw [decide_eq_true hc]
      obtain ⟨r, hr1, hr2⟩ := mod_nat (a := c) hm1
      refine iteT ?_
      refine ⟨_, rfl, p, _, _, _, rfl, rfl, SqL.of hp, rfl, .inl ⟨_, rfl, _, rfl, _, _, rfl, rfl, (by omega : (0 : Int) < m), ?_⟩⟩
      refine ⟨_, rfl, p, _, _, _, rfl, rfl, SqL.of hp, rfl, _, rfl, _, _, rfl, rfl, wd, _, rfl, p, _, _, 3, rfl, rfl, hp, rfl, ?_⟩
      refine ⟨_, rfl, ?_⟩
      show Q (.int (c % (m : Int))) _
      rw [hr2]
      exact hQ _ r hr1 Sv.upd (hL.put i x (c / (m : Int)))
    · rw [decide_eq_false hc]
      refine iteF ?_
      refine ⟨_, rfl, p, _, _, _, rfl, rfl, SqL.of hp, rfl, _, _, rfl, rfl, _, rfl, p, _, _, 1, rfl, rfl, hp, rfl, ?_⟩
      have hL1 := hL.put (i + 1) x c
      have sv1 : Sv p H (upd H p (.lst (lrow sc (i + 1) x c))) := Sv.upd
      have hp1 : (upd H p (.lst (lrow sc (i + 1) x c))) p = some (.lst (lrow sc (i + 1) x c)) := upd_same
      have hs1 := hL1.scr _ (Sv.refl p _)
      refine ⟨_, rfl, p, _, _, _, rfl, rfl, SqL.of hp1, rfl, _, rfl, p, _, _, _, rfl, rfl, SqL.of hp1, rfl, sc, _, rfl, .inl hs1, _, _, rfl, rfl, decide (ns.length < i + 1), ?_, ?_⟩
      · show V.bl (decide (((ns.map V.int).length : Int) < ((i + 1 : Nat) : Int))) = _
        have : (((ns.map V.int).length : Int) < ((i + 1 : Nat) : Int)) ↔ ns.length < i + 1 := by
          rw [List.length_map]
          omega
        simp only [this]
      by_cases hi : ns.length < i + 1
      · rw [decide_eq_true hi]
        refine iteT ?_
        refine ⟨_, rfl, p, _, _, _, rfl, rfl, SqL.of hp1, rfl, _, _, rfl, rfl, .inr ⟨by omega, by omega⟩, _, _, rfl, rfl, .inl ⟨_, rfl, _, _, rfl, rfl, (by omega : (0 : Int) < 2147483647), _, rfl, p, _, _, 2, rfl, rfl, hp1, rfl, ?_⟩⟩
        have hp2 : (upd (upd H p (.lst (lrow sc (i + 1) x c))) p (.lst (lrow sc (i + 1) ((x * 48271 + 11) % 2147483647) c))) p = some (.lst (lrow sc (i + 1) ((x * 48271 + 11) % 2147483647) c)) := upd_same
        obtain ⟨r, hr1, hr2⟩ := mod_nat (a := ((x * 48271 + 11) % 2147483647) / 7) hm1
        refine ⟨_, rfl, p, _, _, _, rfl, rfl, SqL.of hp2, rfl, _, _, rfl, rfl, wide_div (b := 30) (by omega) (by omega) (by decide) (by decide), .inl ⟨_, rfl, _, rfl, _, _, rfl, rfl, (by omega : (0 : Int) < m), ?_⟩⟩
        show Q (.int ((((x * 48271 + 11) % 2147483647) / 7) % (m : Int))) _
        rw [hr2]
        exact hQ _ r hr1 (sv1.trans Sv.upd) (hL1.put (i + 1) ((x * 48271 + 11) % 2147483647) c)
      · rw [decide_eq_false hi]
        have hi2 : i < ns.length := by omega
        have gc := List.getElem?_eq_getElem hi2
        generalize ns[i] = d at gc
        have ac : atI (ns.map V.int) (((i + 1 : Nat) : Int) - 1) = some (.int d) := by
          rw [show (((i + 1 : Nat) : Int) - 1) = ((i : Nat) : Int) by omega]
          refine atI_nat ?_
          rw [List.getElem?_map, gc]
          rfl
        refine iteF ?_
        refine ⟨_, rfl, p, _, _, _, rfl, rfl, SqL.of hp1, rfl, _, rfl, p, _, _, _, rfl, rfl, SqL.of hp1, rfl, _, _, rfl, rfl, sc, _, _, _, rfl, rfl, hs1, ac, ?_⟩
        refine ⟨_, rfl, p, _, _, _, rfl, rfl, SqL.of hp1, rfl, _, _, rfl, rfl, .inr ⟨by omega, by omega⟩, _, rfl, _, _, rfl, rfl, _, _, rfl, rfl, .inl ⟨_, rfl, _, _, rfl, rfl, (by omega : (0 : Int) < 2147483647), _, rfl, p, _, _, 2, rfl, rfl, hp1, rfl, ?_⟩⟩
        have hL2 := hL1.put (i + 1) ((x * 48271 + d + 11) % 2147483647) c
        have hp2 : (upd (upd H p (.lst (lrow sc (i + 1) x c))) p (.lst (lrow sc (i + 1) ((x * 48271 + d + 11) % 2147483647) c))) p = some (.lst (lrow sc (i + 1) ((x * 48271 + d + 11) % 2147483647) c)) := upd_same
        have sv2 : Sv p H (upd (upd H p (.lst (lrow sc (i + 1) x c))) p (.lst (lrow sc (i + 1) ((x * 48271 + d + 11) % 2147483647) c))) := sv1.trans Sv.upd
        obtain ⟨r, hr1, hr2⟩ := mod_nat (a := d) hm1
        refine ⟨_, rfl, _, _, rfl, rfl, ⟨by omega, by omega, by decide⟩, _, _, rfl, rfl, decide ((10 : Int) ^ 18 ≤ d), rfl, ?_⟩
        by_cases hd : (10 : Int) ^ 18 ≤ d
        · rw [decide_eq_true hd]
          refine iteT ?_
          refine ⟨_, rfl, _, rfl, _, _, rfl, rfl, wide_div (b := 30) (by omega) (by omega) (by decide) (by decide), _, rfl, p, _, _, 3, rfl, rfl, hp2, rfl, ?_⟩
          refine ⟨_, rfl, .inl ⟨_, rfl, _, rfl, _, _, rfl, rfl, (by omega : (0 : Int) < m), ?_⟩⟩
          show Q (.int (d % (m : Int))) _
          rw [hr2]
          exact hQ _ r hr1 (sv2.trans Sv.upd) (hL2.put (i + 1) ((x * 48271 + d + 11) % 2147483647) (d / (m : Int)))
        · rw [decide_eq_false hd]
          refine iteF ?_
          refine ⟨_, rfl, .inl ⟨_, rfl, _, rfl, _, _, rfl, rfl, (by omega : (0 : Int) < m), ?_⟩⟩
          show Q (.int (d % (m : Int))) _
          rw [hr2]
          exact hQ _ r hr1 sv2 hL2
end Sd

/-! ScD13 -/
/-! _law_pick, _law_word, _law_sums. -/
namespace Sd
open PySem PySem.Spec PyProof.Rows L2 Sr
variable {P : Program} {w : World} {K : PySem.W.Frag} {mg : Str → Option Value} {base : Heap}
abbrev N33 : List Str := ["_law_row", "_law_things"]
theorem sc33 : FnScope N33 ["_law_row", "_law_things"] (defScope (topS 33)) := ⟨rfl, rfl, rfl, by decide +kernel, rfl, by decide +kernel, by decide +kernel⟩
def spPick (K : PySem.W.Frag) : Sp := fun vs H Q _ => ∃ (p sc : Addr) (ns : List Int), LR K H p sc ns ∧
  ((vs = [.ref p, .str "abcd"] ∧ ∀ H' c, 97 ≤ c ∧ c ≤ 100 → Sv p H H' → LR K H' p sc ns → Q (.str (S [c])) H') ∨
   ∃ (q : Addr) (rs : List (List Nat)), vs = [.ref p, .ref q] ∧ q ≠ p ∧ TupL rowV H q rs ∧ 1 ≤ rs.length ∧ rs.length ≤ 1000 ∧ ∀ H' t r, Sv p H H' → LR K H' p sc ns → r ∈ rs → H' t = some (.tup (rowV r)) → Q (.ref t) H')
theorem abcd_at {r : Nat} (h : r < 4) : ∃ c, 97 ≤ c ∧ c ≤ 100 ∧ ("abcd" : Str).cps.toList[r]? = some c := by
  rw [S_abcd]
  show ∃ c, 97 ≤ c ∧ c ≤ 100 ∧ ([97, 98, 99, 100] : List Nat)[r]? = some c
  match r, h with
  | 0, _ => exact ⟨97, by omega, by omega, rfl⟩
  | 1, _ => exact ⟨98, by omega, by omega, rfl⟩
  | 2, _ => exact ⟨99, by omega, by omega, rfl⟩
  | 3, _ => exact ⟨100, by omega, by omega, rfl⟩
theorem abcd_len : ("abcd" : Str).length = 4 := by
  rw [S_abcd, S_len]
  rfl
theorem ok_pick (B : Bs mg) (D : Df K mg "_law_pick" 33 ["_law_row", "_law_things"]) (O32 : Ok P w K mg base 1 "_law_taken" (spTaken K)) : Ok P w K mg base 2 "_law_pick" (spPick K) := by
  refine mkOk D sc33 (fun vs H Q E h => ?_) (fun f cdv A outer s H vs Q E hr h => ⟨_, (pss_one (ps_ret (pe_ix ix_seq (pv 1) (pe_k O32 hr (by decide) (by rfl) (pa_cons (pv 0) (pa_cons (pe_callB (CallR.or call_len_seq call_len_str) (by rfl) B.len (by decide +kernel) (pa_cons (pv 1) pa_nil)) pa_nil))) (fun _ _ => rfl)))), ?_⟩)
  · obtain ⟨p, sc, ns, _, ⟨rfl, _⟩ | ⟨q, rs, rfl, _⟩⟩ := h <;> rfl
  · obtain ⟨p, sc, ns, hL, ⟨rfl, hQ⟩ | ⟨q, rs, rfl, hqp, hT, h1, h2, hQ⟩⟩ := h
    · refine ⟨_, rfl, _, rfl, _, rfl, .inr ⟨_, rfl, by rw [abcd_len, sizeLine_eq]; omega, ?_⟩⟩
      rw [abcd_len]
      refine ⟨p, sc, ns, 4, rfl, by omega, by omega, hL, fun H' r hr1 sv l => ?_⟩
      obtain ⟨c, c1, c2, hc⟩ := abcd_at hr1
      exact .inr (.inr ⟨_, _, _, rfl, rfl, by rw [abcd_len, sizeLine_eq]; omega, atI_nat hc, hQ H' c ⟨c1, c2⟩ sv l⟩)
    · obtain ⟨vs, hv, hvl, hSq, hAt⟩ := hT.seq (K := K)
      refine ⟨_, rfl, _, rfl, _, rfl, .inl ⟨_, _, rfl, .inl hSq, ?_⟩⟩
      rw [hvl]
      refine ⟨p, sc, ns, rs.length, rfl, h1, by omega, hL, fun H' r hr1 sv l => ?_⟩
      obtain ⟨t, ht, hto⟩ := hAt r _ (List.getElem?_eq_getElem hr1)
      obtain ⟨vp, hvp⟩ := hL.lst
      refine .inl ⟨_, _, _, _, rfl, rfl, SqL.of (sv _ _ hv hqp), atI_nat ht, ?_⟩
      refine hQ H' t _ sv l (List.getElem_mem hr1) (sv _ _ hto fun e => ?_)
      rw [e, hvp] at hto
      cases hto
abbrev N35 : List Str := ["_law_row", "_law_most", "_law_many", "_law_found", "_law_last", "_law_turn"]
theorem sc35 : FnScope N35 ["_law_row", "_law_most", "_law_many"] (defScope (topS 35)) := ⟨rfl, rfl, rfl, by decide +kernel, rfl, by decide +kernel, by decide +kernel⟩
def spLWord (K : PySem.W.Frag) : Sp := fun vs H Q _ => ∃ (p sc : Addr) (ns : List Int) (a b : Nat), vs = [.ref p, .int (a : Nat), .int (b : Nat)] ∧ LR K H p sc ns ∧ a ≤ 100 ∧ 1 ≤ b ∧ b ≤ 4 ∧
  ∀ H' l, Sv p H H' → LR K H' p sc ns → Wd l → l.length ≤ a → Q (.str (S l)) H'
theorem ok_lword (B : Bs mg) (D : Df K mg "_law_word" 35 ["_law_row", "_law_most", "_law_many"]) (O32 : Ok P w K mg base 1 "_law_taken" (spTaken K)) : Ok P w K mg base 2 "_law_word" (spLWord K) := by
  refine mkOk D sc35 (fun vs H Q E h => ?_) (fun f cdv A outer s H vs Q E hr h => ⟨_, (pss_cons (ps_asg (pe_tup (pa_cons pe_str (pa_cons pe_str pa_nil))) (pg_tup (by rfl) (pgs_cons (pg_name (i := 3) sc35.nd rfl (.inl rfl)) (pgs_cons (pg_name (i := 4) sc35.nd rfl (.inl rfl)) pgs_nil))))
      (pss_cons (ps_for PassesOwn.never rfl (pi_range1 (by rfl) B.range (pa_cons (pe_k O32 hr (by decide) (by rfl) (pa_cons (pv 0) (pa_cons (pe_op op_add (pv 1) pe_int) pa_nil))) pa_nil)) (pg_name (i := 5) sc35.nd rfl (.inl rfl)) (pss_cons (ps_if (pt_cmpR op_gt (pe_k O32 hr (by decide) (by rfl) (pa_cons (pv 0) (pa_cons pe_int pa_nil))) pe_int (nomark _)) (pss_one (ps_set (i := 4) sc35.nd rfl (.inl rfl) (pe_ix ix_str pe_str (pe_k O32 hr (by decide) (by rfl) (pa_cons (pv 0) (pa_cons (pv 2) pa_nil))) (fun _ _ => rfl)))) pss_nil)
      (pss_one (ps_set (i := 3) sc35.nd rfl (.inl rfl) (pe_op op_add_str (pv 3) (pv 4))))))
      (pss_one (ps_ret (pv 3))))), ?_⟩)
  · obtain ⟨p, sc, ns, a, b, rfl, _⟩ := h
    rfl
  · obtain ⟨p, sc, ns, a, b, rfl, hL, ha, hb1, hb2, hQ⟩ := h
    refine ⟨(by decide : 2 ≤ sizeLine), fun T nT => ⟨T, _, rfl, SqT.of upd_same, rfl, _, _, rfl, _, _, rfl, rfl, ?_⟩⟩
    refine ⟨_, rfl, _, rfl, _, _, rfl, rfl, p, sc, ns, a + 1, ?_, by omega, by omega, hL.same (same_upd nT), fun H1 n hn sv0 l1 => ?_⟩
    · rw [Int.natCast_add]
      rfl
    have sv1 : Sv p H H1 := (Sv.same (same_upd nT)).trans sv0
    refine ⟨_, rfl, by omega, by omega, ?_⟩
    refine for_it walk_range (fun i σ H' => Sv p H H' ∧ LR K H' p sc ns ∧ ∃ (l : List Nat) (c : Nat) (z : Option V), Wd l ∧ l.length = i ∧ (97 ≤ c ∧ c ≤ 100) ∧ σ = [some (.ref p), some (.int (a : Nat)), some (.int (b : Nat)), some (.str (S l)), some (.str (S [c])), z]) ?_ (fun _ _ _ _ _ => True.intro) (fun i x σ H2 H3 hi q y => ?_) (fun σ H' q => ?_)
    · refine ⟨sv1, l1, [], 97, none, fun x hx => by simp at hx, rfl, ⟨by omega, by omega⟩, ?_⟩
      rw [← S_nil, ← S_a]
      rfl
    · obtain ⟨sv, hl, l, c, z, hW, hll, hc, rfl⟩ := q
      obtain ⟨rfl, rfl⟩ := y
      refine ⟨_, rfl, p, sc, ns, 3, rfl, by omega, by omega, hl, fun H4 r hr1 sv4 l4 => ?_⟩
      refine ⟨_, _, rfl, rfl, decide (0 < (r : Int)), rfl, ?_⟩
      have fin : ∀ H5 d, 97 ≤ d ∧ d ≤ 100 → Sv p H H5 → LR K H5 p sc ns → (S l).length + (S [d]).length ≤ sizeLine ∧ (Sv p H H5 ∧ LR K H5 p sc ns ∧ ∃ (l' : List Nat) (c : Nat) (z : Option V), Wd l' ∧ l'.length = i + 1 ∧ (97 ≤ c ∧ c ≤ 100) ∧
          [some (V.ref p), some (.int (a : Nat)), some (.int (b : Nat)), some (.str (S l ++ S [d])), some (.str (S [d])), some (.int (0 + (i : Nat)))] = [some (.ref p), some (.int (a : Nat)), some (.int (b : Nat)), some (.str (S l')), some (.str (S [c])), z]) := by
        intro H5 d hd s5 l5
        refine ⟨?_, s5, l5, l ++ [d], d, some (.int (0 + (i : Nat))), fun x hx => ?_, ?_, hd, ?_⟩
        · rw [S_len, S_len, sizeLine_eq, hll]
          show i + 1 ≤ _
          omega
        · rcases List.mem_append.mp hx with e | e
          · exact hW x e
          · have : x = d := by simpa using e
            rw [this]
            exact hd
        · rw [List.length_append, hll]
          rfl
        · rw [S_app]
      by_cases h0 : 0 < (r : Int)
      · rw [decide_eq_true h0]
        refine iteT ?_
        refine ⟨_, rfl, _, rfl, p, sc, ns, b, rfl, hb1, by omega, l4, fun H5 k hk sv5 l5 => ?_⟩
        obtain ⟨d, d1, d2, hd⟩ := abcd_at (r := k) (by omega)
        refine ⟨_, _, _, rfl, rfl, by rw [abcd_len, sizeLine_eq]; omega, atI_nat hd, ?_⟩
        have g := fin H5 d ⟨d1, d2⟩ (sv.trans (sv4.trans sv5)) l5
        exact ⟨_, rfl, _, rfl, _, _, rfl, rfl, g.1, g.2⟩
      · rw [decide_eq_false h0]
        refine iteF ?_
        have g := fin H4 c hc (sv.trans sv4) l4
        exact ⟨_, rfl, _, rfl, _, _, rfl, rfl, g.1, g.2⟩
    · obtain ⟨sv, hl, l, c, z, hW, hll, hc, rfl⟩ := q
      exact ⟨_, rfl, hQ _ l sv hl hW (by omega)⟩
/-! ### a call that is never made -/
theorem ok_never {x : Str} {i : Nat} {ps : List Str} (D : Df K mg x i ps) : Ok P w K mg base 0 x (fun _ _ _ _ => False) := by
  obtain ⟨f, fd, F, hm, b⟩ := D.ex
  exact ⟨f, fd, ps, ⟨fun _ _ _ _ h => h.elim, fun _ _ _ _ _ _ _ _ _ _ _ _ _ h => h.elim⟩, hm, F.kp, b⟩
abbrev N42 : List Str := ["_law_many", "_law_whole", "_law_found", "_law_first", "_law_rest"]
theorem sc42 : FnScope N42 ["_law_many", "_law_whole"] (defScope (topS 42)) := ⟨rfl, rfl, rfl, by decide +kernel, rfl, by decide +kernel, by decide +kernel⟩
def spSums (n : Nat) : Sp := fun vs H Q _ => ∃ a b : Nat, vs = [.int (a : Nat), .int (b : Nat)] ∧ a < n ∧ a ≤ 3 ∧ b ≤ 40 ∧ ∀ H' p, Same H H' → H p = none → TupL rowV H' p (Sc.sums a b) → Q (.ref p) H'
theorem fm_snoc {α : Type} (F : Nat → List α) (j : Nat) : (List.range (j + 1)).flatMap F = (List.range j).flatMap F ++ F j := by
  rw [List.range_succ, List.flatMap_append]
  simp
theorem fm_len {α : Type} {F : Nat → List α} {B : Nat} (h : ∀ i, (F i).length ≤ B) : ∀ j, ((List.range j).flatMap F).length ≤ B * j
  | 0 => Nat.le_refl _
  | j + 1 => by
    have ih := fm_len h j
    have := h j
    rw [fm_snoc, List.length_append, Nat.mul_succ]
    omega
theorem TupL.cat {α : Type} {f : α → List V} {H : Hp} {q D p : Addr} {xs ys : List α} (h1 : TupL f H q xs) (h2 : TupL f H D ys) (np : H p = none) {vs ws : List V} (e1 : H q = some (.lst vs)) (e2 : H D = some (.lst ws)) : TupL f (upd H p (.lst (vs ++ ws))) p (xs ++ ys) := by
  obtain ⟨ts, a1, b1⟩ := h1
  obtain ⟨us, a2, b2⟩ := h2
  rw [a1] at e1
  rw [a2] at e2
  cases e1
  cases e2
  refine ⟨ts ++ us, by rw [upd_same, List.map_append], pt_same (same_upd np) (pt_app b1 b2)⟩
theorem ok_sums (B : Bs mg) (D : Df K mg "_law_sums" 42 ["_law_many", "_law_whole"]) : ∀ n, Ok P w K mg base n "_law_sums" (spSums n)
  | 0 => (ok_never D).imp fun vs H Q E h => by
    obtain ⟨a, b, _, h, _⟩ := h
    omega
  | n + 1 => by
    have O42 := ok_sums B D n
    refine mkOk D sc42 (fun vs H Q E h => ?_) (fun f cdv A outer s H vs Q E hr h => ⟨_, (pss_cons (ps_if (pt_cmpR op_eq (pv 0) pe_int (nomark _)) (pss_one (ps_ret (pe_ifExp (pt_cmpR op_eq (pv 1) pe_int (nomark _)) (pe_lst (pa_cons (pe_tup pa_nil) pa_nil)) (pe_lst pa_nil)))) pss_nil)
      (pss_cons (ps_set (i := 2) sc42.nd rfl (.inl rfl) (pe_lst pa_nil))
      (pss_cons (ps_for PassesOwn.never rfl (pi_range2 (by rfl) B.range (pa_cons pe_int (pa_cons (pe_op op_add (pe_op op_sub (pv 1) (pv 0)) pe_int) pa_nil))) (pg_name (i := 3) sc42.nd rfl (.inr rfl)) (pss_one (ps_set (i := 2) sc42.nd rfl (.inl rfl) (pe_op op_cat (pv 2) (pe_lc (own := [("_law_rest", 4)]) (by rfl) sc42.nd (pi_list (pe_k O42 hr (Nat.le_refl _) (by rfl) (pa_cons (pe_op op_sub (pv 0) pe_int) (pa_cons (pe_op op_sub (pv 1) (pv 3)) pa_nil)))) (blkOk_by (own := [("_law_rest", 4)]) (N := N42) (sc := defScope (topS 42)) (by decide +kernel)) (fun _ _ _ _ _ => (pg_name (i := 4) sc42.nd rfl (.inl rfl))) (fun _ _ _ _ _ => pts_nil) (fun _ _ _ _ _ => (pe_op (op_catAK K rfl) (pe_tup (pa_cons (pv 3) pa_nil)) (pv 4))))))))
      (pss_one (ps_ret (pv 2)))))), ?_⟩)
    · obtain ⟨a, b, rfl, _⟩ := h
      rfl
    · obtain ⟨a, b, rfl, han, ha3, hb, hQ⟩ := h
      refine ⟨_, rfl, rfl, decide (a = 0), ?_, ?_⟩
      · show V.bl (decide (V.int (a : Nat) = V.int 0)) = _
        have : (V.int (a : Nat) = V.int 0) ↔ a = 0 := ⟨fun h => by have := V.int.inj h; omega, fun h => by rw [h]; rfl⟩
        simp only [this]
      cases a with
      | zero =>
        refine iteT ?_
        refine ⟨_, rfl, rfl, decide (b = 0), ?_, ?_⟩
        · show V.bl (decide (V.int (b : Nat) = V.int 0)) = _
          have : (V.int (b : Nat) = V.int 0) ↔ b = 0 := ⟨fun h => by have := V.int.inj h; omega, fun h => by rw [h]; rfl⟩
          simp only [this]
        by_cases hb0 : b = 0
        · subst hb0
          refine iteT ⟨Nat.zero_le _, fun o no => ⟨(by decide : 1 ≤ sizeLine), fun p np => ?_⟩⟩
          have np0 : H p = none := (same_upd no).free np
          refine hQ _ p ((same_upd no).trans (same_upd np)) np0 ⟨[o], upd_same, .cons ?_ .nil⟩
          exact (same_upd np) _ _ upd_same
        · rw [decide_eq_false hb0]
          refine iteF ⟨Nat.zero_le _, fun p np => ?_⟩
          refine hQ _ p (same_upd np) np ?_
          have : Sc.sums 0 b = [] := by
            unfold Sc.sums
            rw [if_neg hb0]
          rw [this]
          exact TupL.nil
      | succ a =>
        refine iteF ?_
        refine ⟨Nat.zero_le _, fun q nq => ?_⟩
        refine ⟨_, rfl, _, rfl, _, _, rfl, rfl, _, _, rfl, rfl, _, _, rfl, ⟨by omega, by omega, by omega, by omega⟩, ?_⟩
        have en : ((b : Int) - ((a + 1 : Nat) : Int) + 1 - 1).toNat = b - (a + 1) := by omega
        have en2 : (((b : Nat) : Int) - ((a + 1 : Nat) : Int) + 2 - 1).toNat = b - a := by omega
        refine for_it walk_range (fun j σ H' => Same H H' ∧ ∃ (q : Addr) (y z : Option V), H q = none ∧ TupL rowV H' q ((List.range j).flatMap fun i => (Sc.sums a (b - (i + 1))).map ((i + 1) :: ·)) ∧ σ = [some (.int ((a + 1 : Nat) : Int)), some (.int (b : Nat)), some (.ref q), y, z]) ⟨same_upd nq, q, none, none, nq, TupL.nil, rfl⟩ (fun _ _ _ _ _ => True.intro) (fun j x σ H1 H2 hj p y => ?_) (fun σ H' p => ?_)
        · obtain ⟨sm, q, y1, z1, nq, hT, rfl⟩ := p
          obtain ⟨rfl, rfl⟩ := y
          have hj2 : j < b - a := by omega
          have hpl := fun i => (Sc.sums_small (a := a) (b := b - (i + 1)) (by omega) (by omega)).2
          have hfl := fm_len (F := fun i => (Sc.sums a (b - (i + 1))).map ((i + 1) :: ·)) (B := 1000) (fun i => by rw [List.length_map]; exact hpl i) j
          obtain ⟨vs, hv, hvl, hSq, _⟩ := hT.seq (K := K)
          refine ⟨_, rfl, _, rfl, _, _, rfl, rfl, _, rfl, _, rfl, _, _, rfl, rfl, a, b - (j + 1), ?_, by omega, by omega, by omega, fun H3 p s3 np hT3 => ?_⟩
          · show [V.int (((a + 1 : Nat) : Int) - 1), V.int ((b : Int) - (1 + (j : Nat)))] = _
            rw [show (((a + 1 : Nat) : Int) - 1) = ((a : Nat) : Int) by omega, show ((b : Int) - (1 + (j : Nat))) = ((b - (j + 1) : Nat) : Int) by omega]
          obtain ⟨ws, hw, hwl, hSw, hAt⟩ := hT3.seq (K := K)
          refine ⟨p, rfl, ⟨_, hSw⟩, fun D nD => ?_⟩
          refine lc_tups walk_list rowV ((Sc.sums a (b - (j + 1))).map ((j + 1) :: ·)) ?_ ?_ nD (fun H4 s4 => s4.seq hSw) (fun i x H4 H5 hi s4 y R hR => ?_) (fun H4 s4 hD => ?_)
          · rw [hwl, List.length_map]
          · rw [hwl]
            exact Nat.le_trans (hpl j) (by decide)
          · obtain ⟨rfl, hx⟩ := y
            rw [hwl] at hi
            have gr := List.getElem?_eq_getElem hi
            generalize (Sc.sums a (b - (j + 1)))[i] = r at gr
            obtain ⟨t, ht, hto⟩ := hAt i _ gr
            rw [ht] at hx
            cases hx
            have hrl := ((Sc.mem_sums _ _ _).mp (List.mem_of_getElem? gr)).1
            have hy : ((Sc.sums a (b - (j + 1))).map ((j + 1) :: ·))[i]? = some ((j + 1) :: r) := by
              rw [List.getElem?_map, gr]
              rfl
            have e1 : (V.int (1 + (j : Nat)) :: rowV r) = rowV ((j + 1) :: r) := by
              show _ = V.int ((j + 1 : Nat) : Int) :: rowV r
              rw [show ((j + 1 : Nat) : Int) = 1 + (j : Nat) by omega]
            refine ⟨rfl, _, rfl, (by decide : 1 ≤ sizeLine), fun o no => ⟨_, rfl, o, t, _, _, rfl, rfl, SqT.of upd_same, SqT.of ((same_upd no) _ _ (s4 _ _ hto)), ?_, (fun h => by cases h), fun _ h => ?_, fun _ _ u nu => ?_⟩⟩
            · rw [rowV_len, hrl, sizeLine_eq]
              show 1 + a ≤ _
              omega
            · refine hR o _ _ (same_upd no) hy ?_
              rw [upd_same, ← e1, h]
            · refine hR u _ _ ((same_upd no).trans (same_upd nu)) hy ?_
              rw [upd_same, ← e1]
              rfl
          · have hT4 := (hT.same s3).same s4
            have hv4 := s4 _ _ (s3 _ _ hv)
            obtain ⟨zs, hz, hzl, _, _⟩ := hD.seq (K := K)
            rw [List.length_map] at hzl
            have := hpl j
            have hj40 : 1000 * j ≤ 1000 * 40 := Nat.mul_le_mul_left _ (by omega)
            refine ⟨q, D, _, _, rfl, rfl, hv4, hz, ?_, fun u nu => ?_⟩
            · rw [hvl, hzl, sizeLine_eq]
              omega
            refine ⟨(sm.trans (s3.trans s4)).trans (same_upd nu), u, _, _, (sm.trans (s3.trans s4)).free nu, ?_, rfl⟩
            rw [fm_snoc]
            exact hT4.cat hD nu hv4 hz
        · obtain ⟨sm, q, y1, z1, nq, hT, rfl⟩ := p
          rw [en2] at hT
          exact ⟨_, rfl, hQ _ q sm nq hT⟩
end Sd

/-! ScD14 -/
/-! _law_alike of what is alike, _law_pair. -/
namespace Sd
open PySem PySem.Spec PyProof.Rows L2 Sr
variable {P : Program} {w : World} {K : PySem.W.Frag} {mg : Str → Option Value} {base : Heap}
/-- alike to depth n: None, ints, lists and tuples of such -/
def Al : Nat → Hp → V → V → Prop
  | 0, _, _, _ => False
  | n + 1, H, x, y => (x = .non ∧ y = .non) ∨ (∃ i : Int, x = .int i ∧ y = .int i) ∨
    ∃ (p q : Addr) (xs ys : List V), x = .ref p ∧ y = .ref q ∧ ((H p = some (.tup xs) ∧ H q = some (.tup ys)) ∨ (H p = some (.lst xs) ∧ H q = some (.lst ys))) ∧ xs.length = ys.length ∧ ys.length ≤ 1000 ∧ ∀ (i : Nat) (a b : V), xs[i]? = some a → ys[i]? = some b → Al n H a b
theorem Al.same : ∀ {n : Nat} {H H' : Hp} {x y : V}, Same H H' → Al n H x y → Al n H' x y
  | 0, _, _, _, _, _, h => h.elim
  | n + 1, H, H', x, y, s, h => by
    rcases h with h | h | ⟨p, q, xs, ys, h1, h2, h3, h4, h5, h6⟩
    · exact .inl h
    · exact .inr (.inl h)
    · refine .inr (.inr ⟨p, q, xs, ys, h1, h2, ?_, h4, h5, fun i a b ha hb => Al.same s (h6 i a b ha hb)⟩)
      rcases h3 with ⟨a, b⟩ | ⟨a, b⟩
      · exact .inl ⟨s _ _ a, s _ _ b⟩
      · exact .inr ⟨s _ _ a, s _ _ b⟩
abbrev N34 : List Str := ["_law_found", "_law_due", "_law_k"]
theorem sc34 : FnScope N34 ["_law_found", "_law_due"] (defScope (topS 34)) := ⟨rfl, rfl, rfl, by decide +kernel, rfl, by decide +kernel, by decide +kernel⟩
def spAlike (n : Nat) : Sp := fun vs H Q _ => ∃ x y : V, vs = [x, y] ∧ Al n H x y ∧ ∀ H', Same H H' → Q (.bl true) H'
theorem no_seq {t : String} {K : PySem.W.Frag} (h1 : kitB t "tuple" = some false) (h2 : kitB t "list" = some false) : PySem.W.kitAny K (.type t) [.type "tuple", .type "list"] = some false :=
  kitAny_cons (kit_ty h1) (fun _ => kitAny_cons (kit_ty h2) (fun _ => kitAny_nil) (fun h => by cases h)) (fun h => by cases h)
theorem tup_seq {K : PySem.W.Frag} : PySem.W.kitAny K (.type "tuple") [.type "tuple", .type "list"] = some true :=
  kitAny_cons (b := true) (kit_ty (by decide +kernel)) (fun h => by cases h) (fun _ => rfl)
theorem lst_seq {K : PySem.W.Frag} : PySem.W.kitAny K (.type "list") [.type "tuple", .type "list"] = some true :=
  kitAny_cons (b := false) (kit_ty (by decide +kernel)) (fun _ => kitAny_cons (b := true) (kit_ty (by decide +kernel)) (fun h => by cases h) (fun _ => rfl)) (fun h => by cases h)
theorem cls_two : Paired ClsV [V.ty "tuple", V.ty "list"] [Value.type "tuple", Value.type "list"] := .cons (.ty _) (.cons (.ty _) .nil)
/-- what stands at a list or a tuple -/
theorem seq_kind {H : Hp} {p q : Addr} {xs ys : List V} (h : (H p = some (.tup xs) ∧ H q = some (.tup ys)) ∨ (H p = some (.lst xs) ∧ H q = some (.lst ys))) :
    ∃ (t : String) (b : Bool), (∀ H', Same H H' → TyX K H' (.ref p) (.type t) ∧ TyX K H' (.ref q) (.type t) ∧ (SqL K H' p xs ∨ SqT K H' p xs) ∧ (SqL K H' q ys ∨ SqT K H' q ys)) ∧ PySem.W.kitAny K (.type t) [.type "tuple", .type "list"] = some true ∧ PySem.W.kitOne K (.type t) (.type "list") = some b := by
  rcases h with ⟨h1, h2⟩ | ⟨h1, h2⟩
  · exact ⟨"tuple", false, fun H' s => ⟨TyX.base (TyOf.tup (s _ _ h1)), TyX.base (TyOf.tup (s _ _ h2)), .inr (SqT.of (s _ _ h1)), .inr (SqT.of (s _ _ h2))⟩, tup_seq, kit_ty (by decide +kernel)⟩
  · exact ⟨"list", true, fun H' s => ⟨TyX.base (TyOf.lst (s _ _ h1)), TyX.base (TyOf.lst (s _ _ h2)), .inl (SqL.of (s _ _ h1)), .inl (SqL.of (s _ _ h2))⟩, lst_seq, kit_ty (by decide +kernel)⟩
theorem rIx_of {H : Hp} {p : Addr} {xs : List V} {i : Nat} {v : V} {Q : VK} (h : SqL K H p xs ∨ SqT K H p xs) (hv : xs[i]? = some v) (q : Q v H) : L2.rIx K (.ref p) (.int (0 + (i : Nat) : Int)) H Q := by
  have ha : atI xs (0 + (i : Nat) : Int) = some v := by
    rw [Int.zero_add]
    exact atI_nat hv
  rcases h with h | h
  · exact .inl ⟨p, xs, _, v, rfl, rfl, h, ha, q⟩
  · exact .inr (.inl ⟨p, xs, _, v, rfl, rfl, h, ha, q⟩)
theorem ok_alike (B : Bs mg) (D : Df K mg "_law_alike" 34 ["_law_found", "_law_due"]) : ∀ n, Ok P w K mg base n "_law_alike" (spAlike n)
  | 0 => (ok_never D).imp fun vs H Q E h => by
    obtain ⟨x, y, _, h, _⟩ := h
    exact h
  | n + 1 => by
    have O34 := ok_alike B D n
    refine mkOk D sc34 (fun vs H Q E h => ?_) (fun f cdv A outer s H vs Q E hr h => ⟨_, (pss_cons (ps_if (pt_val (pe_callB call_isiT (by rfl) B.isinstance (by decide +kernel) (pa_cons (pv 1) (pa_cons (pe_tup (pa_cons (pe_bltn (v := .ty "tuple") (by rfl) B.tuple (by decide +kernel) rfl) (pa_cons (pe_bltn (v := .ty "list") (by rfl) B.list (by decide +kernel) rfl) pa_nil))) pa_nil)))) (pss_cons (ps_if (PW.pt (pw_or (pt_not (pt_val (pe_callB call_isiT (by rfl) B.isinstance (by decide +kernel) (pa_cons (pv 0) (pa_cons (pe_tup (pa_cons (pe_bltn (v := .ty "tuple") (by rfl) B.tuple (by decide +kernel) rfl) (pa_cons (pe_bltn (v := .ty "list") (by rfl) B.list (by decide +kernel) rfl) pa_nil))) pa_nil))))) (pw_or1 (pt_cmpR op_ne (pe_callB call_isi (by rfl) B.isinstance (by decide +kernel) (pa_cons (pv 0) (pa_cons (pe_bltn (v := .ty "list") (by rfl) B.list (by decide +kernel) rfl) pa_nil))) (pe_callB call_isi (by rfl) B.isinstance (by decide +kernel) (pa_cons (pv 1) (pa_cons (pe_bltn (v := .ty "list") (by rfl) B.list (by decide +kernel) rfl) pa_nil))) (nomark _))))) (pss_one (ps_ret pe_bl)) pss_nil)
      (pss_cons (ps_if (pt_cmpR op_ne (pe_callB call_len_seq (by rfl) B.len (by decide +kernel) (pa_cons (pv 0) pa_nil)) (pe_callB call_len_seq (by rfl) B.len (by decide +kernel) (pa_cons (pv 1) pa_nil)) (nomark _)) (pss_one (ps_ret pe_bl)) pss_nil)
      (pss_one (ps_ret (pe_cmpR (op_eqD hr.units) (pe_lc (own := [("_law_k", 2)]) (by rfl) sc34.nd (pi_range1 (by rfl) B.range (pa_cons (pe_callB call_len_seq (by rfl) B.len (by decide +kernel) (pa_cons (pv 1) pa_nil)) pa_nil)) (blkOk_by (own := [("_law_k", 2)]) (N := N34) (sc := defScope (topS 34)) (by decide +kernel)) (fun _ _ _ _ _ => (pg_name (i := 2) sc34.nd rfl (.inl rfl))) (fun _ _ _ _ _ => (pts_one (pt_not (pt_val (pe_k O34 hr (Nat.le_refl _) (by rfl) (pa_cons (pe_ix (ix_seqK K rfl) (pv 0) (pv 2) (fun _ _ => rfl)) (pa_cons (pe_ix (ix_seqK K rfl) (pv 1) (pv 2) (fun _ _ => rfl)) pa_nil))))))) (fun _ _ _ _ _ => (pv 2))) (pe_lst pa_nil) (nomark _)))))) pss_nil)
      (pss_cons (ps_if (PW.pt (pw_or (pt_cmpR op_isN (pv 1) pe_non (nomark _)) (pw_or1 (pt_val (pe_callB call_isi (by rfl) B.isinstance (by decide +kernel) (pa_cons (pv 1) (pa_cons (pe_bltn (v := .ty "str") (by rfl) B.str (by decide +kernel) rfl) pa_nil))))))) (pss_one (ps_ret (pe_and (pe_cmpR op_eq (pv 0) (pv 1) (nomark _)) (pe_one (pe_cmpR op_eq (pe_callB call_isi (by rfl) B.isinstance (by decide +kernel) (pa_cons (pv 0) (pa_cons (pe_bltn (v := .ty "str") (by rfl) B.str (by decide +kernel) rfl) pa_nil))) (pe_callB call_isi (by rfl) B.isinstance (by decide +kernel) (pa_cons (pv 1) (pa_cons (pe_bltn (v := .ty "str") (by rfl) B.str (by decide +kernel) rfl) pa_nil))) (nomark _)))))) pss_nil)
      (pss_one (ps_ret (pe_and (pe_callB call_isi (by rfl) B.isinstance (by decide +kernel) (pa_cons (pv 0) (pa_cons (pe_bltn (v := .ty "int") (by rfl) B.int (by decide +kernel) rfl) pa_nil))) (pe_and (pe_cmpR op_eq (pe_callB call_isi (by rfl) B.isinstance (by decide +kernel) (pa_cons (pv 0) (pa_cons (pe_bltn (v := .ty "bool") (by rfl) B.bool (by decide +kernel) rfl) pa_nil))) (pe_callB call_isi (by rfl) B.isinstance (by decide +kernel) (pa_cons (pv 1) (pa_cons (pe_bltn (v := .ty "bool") (by rfl) B.bool (by decide +kernel) rfl) pa_nil))) (nomark _)) (pe_one (pe_cmpR op_eq (pv 0) (pv 1) (nomark _))))))))), ?_⟩)
    · obtain ⟨a, b, rfl, _⟩ := h
      rfl
    · obtain ⟨x, y, rfl, hA, hQ⟩ := h
      rcases hA with ⟨rfl, rfl⟩ | ⟨i, rfl, rfl⟩ | ⟨p, q, xs, ys, rfl, rfl, hpq, hlen, hl1000, hAl⟩
      · refine ⟨_, rfl, (by decide : 2 ≤ sizeLine), fun T nT => ⟨_, T, _, _, _, _, rfl, upd_same, cls_two, TyX.base TyOf.non, no_seq (by decide +kernel) (by decide +kernel), false, rfl, iteF ?_⟩⟩
        refine ⟨_, rfl, rfl, true, rfl, iteT (iteT ?_)⟩
        refine ⟨_, rfl, _, rfl, rfl, true, rfl, iteT ?_⟩
        refine ⟨_, rfl, _, _, _, _, _, rfl, ClsV.ty _, TyX.base TyOf.non, kit_ty (r := false) (by decide +kernel), _, rfl, _, _, _, _, _, rfl, ClsV.ty _, TyX.base TyOf.non, kit_ty (r := false) (by decide +kernel), rfl, ?_⟩
        exact hQ _ (same_upd nT)
      · refine ⟨_, rfl, (by decide : 2 ≤ sizeLine), fun T nT => ⟨_, T, _, _, _, _, rfl, upd_same, cls_two, TyX.base (TyOf.int i), no_seq (by decide +kernel) (by decide +kernel), false, rfl, iteF ?_⟩⟩
        refine ⟨_, rfl, rfl, false, rfl, iteF ?_⟩
        refine ⟨_, rfl, _, _, _, _, _, rfl, ClsV.ty _, TyX.base (TyOf.int i), kit_ty (by decide +kernel), false, rfl, iteF ?_⟩
        refine ⟨_, rfl, _, _, _, _, _, rfl, ClsV.ty _, TyX.base (TyOf.int i), kit_ty (by decide +kernel), true, rfl, iteT ?_⟩
        refine ⟨_, rfl, _, _, _, _, _, rfl, ClsV.ty _, TyX.base (TyOf.int i), kit_ty (r := false) (by decide +kernel), _, rfl, _, _, _, _, _, rfl, ClsV.ty _, TyX.base (TyOf.int i), kit_ty (r := false) (by decide +kernel), rfl, true, rfl, iteT ?_⟩
        refine ⟨_, rfl, _, rfl, rfl, ?_⟩
        show Q (V.bl (decide (V.int i = V.int i))) _
        rw [decide_eq_true rfl]
        exact hQ _ (same_upd nT)
      · obtain ⟨t, b, hk, hany, hone⟩ := seq_kind (K := K) hpq
        refine ⟨_, rfl, (by decide : 2 ≤ sizeLine), fun T nT => ⟨_, T, _, _, _, _, rfl, upd_same, cls_two, (hk _ (same_upd nT)).2.1, hany, true, rfl, iteT ?_⟩⟩
        have s1 : Same H (upd H T (.tup [.ty "tuple", .ty "list"])) := same_upd nT
        generalize upd H T (.tup [.ty "tuple", .ty "list"]) = H1 at s1
        refine ⟨_, rfl, (by decide : 2 ≤ sizeLine), fun U nU => ⟨_, U, _, _, _, _, rfl, upd_same, cls_two, (hk _ (s1.trans (same_upd nU))).1, hany, true, rfl, iteF ?_⟩⟩
        have s2 : Same H (upd H1 U (.tup [.ty "tuple", .ty "list"])) := s1.trans (same_upd nU)
        generalize upd H1 U (.tup [.ty "tuple", .ty "list"]) = H2 at s2
        obtain ⟨k1, k2, k3, k4⟩ := hk H2 s2
        refine ⟨_, rfl, _, _, _, _, _, rfl, ClsV.ty _, k1, hone, _, rfl, _, _, _, _, _, rfl, ClsV.ty _, k2, hone, rfl, false, ?_, iteF ?_⟩
        · show V.bl (!decide (V.bl b = V.bl b)) = V.bl false
          rw [decide_eq_true rfl]
          rfl
        refine ⟨_, rfl, p, xs, rfl, k3, _, rfl, q, ys, rfl, k4, rfl, false, ?_, iteF ?_⟩
        · show V.bl (!decide (V.int (xs.length : Nat) = V.int (ys.length : Nat))) = V.bl false
          rw [hlen, decide_eq_true rfl]
          rfl
        refine ⟨_, rfl, q, ys, rfl, k4, _, rfl, by omega, by omega, fun D nD => ?_⟩
        refine lc_none walk_range nD (fun _ _ => True.intro) (fun i x H3 H4 hi s3 y R hR => ?_) (fun H3 s3 hD => ?_)
        · obtain ⟨rfl, rfl⟩ := y
          rw [Int.toNat_natCast] at hi
          have ga := List.getElem?_eq_getElem (show i < xs.length by omega)
          have gb := List.getElem?_eq_getElem hi
          obtain ⟨_, _, m3, m4⟩ := hk H4 (s2.trans s3)
          refine ⟨rfl, _, rfl, _, rfl, rIx_of m3 ga ?_⟩
          refine ⟨_, rfl, _, rfl, rIx_of m4 gb ?_⟩
          refine ⟨_, _, rfl, (hAl i _ _ ga gb).same (s2.trans s3), fun H5 s5 => ⟨true, rfl, ?_⟩⟩
          exact hR _ H5 s5
        · refine ⟨Nat.zero_le _, fun Z nZ => ⟨.list [], .list [], dp_nil ((same_upd nZ) _ _ hD), dp_nil upd_same, shaped_nil, shaped_nil, ?_⟩⟩
          rw [eqv_nil]
          exact hQ _ (s2.trans (s3.trans (same_upd nZ)))
/-- a comprehension of draws -/
theorem lc_draw {p sc : Addr} {ns : List Int} {n k ir ia : Nat} {vs : List Nat} {σ : L2.St} {H1 : Hp} {D : Addr} {Qd : Hp → Prop} (hk : 1 ≤ k) (hk2 : k ≤ 1000) (hw : ∀ v, wipe ((wipe σ vs).set ia (some v)) vs = wipe σ vs) (hir : ∀ v, ((wipe σ vs).set ia (some v))[ir]? = some (some (.ref p)))
    (hL : LR K H1 p sc ns) (hD : H1 D = none) (hn : n ≤ 1000) (hd : ∀ H ws, Sv p H1 H → LR K H p sc ns → H D = some (.lst (rowV ws)) → ws.length = n → (∀ x ∈ ws, 1 ≤ x ∧ x ≤ k) → Qd H) :
    ∃ W : Nat → Nat → Hp → Prop, (∃ m, W 0 m (upd H1 D (.lst []))) ∧ ∀ i m H, W i m H →
      ((Itr 0 n).stop i H ∧ Qd H) ∨ ((Itr 0 n).go i H ∧ ∃ Nx : Hp → Prop, (∀ H', Nx H' → ∃ m', m' < m ∧ W (i + 1) m' H') ∧ ∀ x H', (Itr 0 n).yld i H x H' → gName ia x (wipe σ vs) H' fun σ2 H2 => wipe σ2 vs = wipe σ vs ∧ tYes σ2 H2 fun b H3 =>
        if b = true then (tOp (rI0 fun i j => .int (i + j)) (tC (.int 1)) (tCall (spTaken K) [] E0 (tCons (tVar ir) (tCons (tC (.int (k : Nat))) tNil)))) σ2 H3 fun y H4 => ∃ acc, H4 D = some (.lst acc) ∧ acc.length < sizeLine ∧ Nx (upd H4 D (.lst (acc ++ [y]))) else Nx H3) := by
  obtain ⟨vp, hvp⟩ := hL.lst
  have hpD : p ≠ D := ne_of_none hvp hD
  refine lc_it walk_range (fun i H => Sv p H1 H ∧ LR K H p sc ns ∧ ∃ ws : List Nat, H D = some (.lst (rowV ws)) ∧ ws.length = i ∧ ∀ x ∈ ws, 1 ≤ x ∧ x ≤ k) ?_ (fun _ _ _ _ => True.intro) (fun i x H H' hi q y => ?_) (fun H q => ?_)
  · exact ⟨Sv.same (same_upd hD), hL.same (same_upd hD), [], upd_same, rfl, fun x hx => by simp at hx⟩
  · obtain ⟨sv, l, ws, hws, hwl, hwk⟩ := q
    obtain ⟨rfl, rfl⟩ := y
    refine ⟨hw _, ?_⟩
    refine ⟨_, hir _, p, sc, ns, k, rfl, hk, by omega, l, fun H4 r hr1 sv4 l4 => ?_⟩
    have h4 : H4 D = some (.lst (rowV ws)) := sv4 _ _ hws hpD.symm
    obtain ⟨vp4, hvp4⟩ := l4.row
    have svD : ∀ y, Sv p H1 (upd H4 D (.lst (rowV ws ++ [y]))) := fun y b o h hb => by
      rw [upd_ne (ne_of_none h hD)]
      exact sv4 _ _ (sv _ _ h hb) hb
    refine ⟨_, _, rfl, rfl, _, h4, ?_, svD _, hL.sv (svD _) ?_, ws ++ [1 + r], ?_, ?_, ?_⟩
    · rw [rowV_len, hwl, sizeLine_eq]
      omega
    · obtain ⟨x, c, h⟩ := hvp4
      exact ⟨vp4, x, c, by rw [upd_ne hpD]; exact h⟩
    · rw [upd_same, rowV_snoc, Int.natCast_add]
      rfl
    · rw [List.length_append, hwl]
      rfl
    · intro x hx
      rcases List.mem_append.mp hx with e | e
      · exact hwk x e
      · have : x = 1 + r := by simpa using e
        omega
  · obtain ⟨sv, l, ws, hws, hwl, hwk⟩ := q
    exact hd H ws sv l hws hwl hwk
abbrev N44 : List Str := ["_law_row", "_law_bare", "_law_many", "_law_at", "_law_one", "_law_other"]
theorem sc44 : FnScope N44 ["_law_row"] (defScope (topS 44)) := ⟨rfl, rfl, rfl, by decide +kernel, rfl, by decide +kernel, by decide +kernel⟩
def spPair (K : PySem.W.Frag) : Sp := fun vs H Q _ => ∃ (p sc : Addr) (ns : List Int), vs = [.ref p] ∧ LR K H p sc ns ∧
  ∀ H' t u v, Sv p H H' → LR K H' p sc ns → Two u v → u.length ≤ 30 → (u = [] → v = []) → H' t = some (.tup [.str (S u), .str (S v)]) → Q (.ref t) H'
theorem grown_nil {b ws : List Nat} (h1 : ∀ x ∈ ws, 1 ≤ x) (he : ∀ e ∈ Sc.ends Sc.k0 b, e.2 ≤ ws.length) (h : Sc.grown b ws = []) : b = [] := by
  cases b with
  | nil => rfl
  | cons x r =>
    exfalso
    obtain ⟨c, L, e, hc⟩ := Sc.ends_head r Sc.k0 x
    unfold Sc.grown at h
    rw [e] at h he
    have h2 := he (x, c) List.mem_cons_self
    have h3 := Sc.psum_lt h1 (a := 0) h2 hc
    rw [Sc.psum0] at h3
    have h4 := Sc.made_head (k := Sc.k0) (e := (x, Sc.psum ws c)) (r := Sc.mapc (Sc.psum ws) L) h3
    have h5 : Sc.made Sc.k0 ((x, Sc.psum ws c) :: Sc.mapc (Sc.psum ws) L) = [] := h
    rw [h5] at h4
    cases h4
theorem ok_pair (B : Bs mg) (D : Df K mg "_law_pair" 44 ["_law_row"]) (O39 : Ok P w K mg base 3 "_law_core" spCore) (O35 : Ok P w K mg base 2 "_law_word" (spLWord K)) (O32 : Ok P w K mg base 1 "_law_taken" (spTaken K)) (O40 : Ok P w K mg base 3 "_law_gaps" spGaps) (O41 : Ok P w K mg base 2 "_law_grown" (spGrown K)) (O33 : Ok P w K mg base 2 "_law_pick" (spPick K)) : Ok P w K mg base 4 "_law_pair" (spPair K) := by
  refine mkOk D sc44 (fun vs H Q E h => ?_) (fun f cdv A outer s H vs Q E hr h => ⟨_, (pss_cons (ps_set (i := 1) sc44.nd rfl (.inl rfl) (pe_k O39 hr (by decide) (by rfl) (pa_cons (pe_k O35 hr (by decide) (by rfl) (pa_cons (pv 0) (pa_cons pe_int (pa_cons (pe_op op_add pe_int (pe_k O32 hr (by decide) (by rfl) (pa_cons (pv 0) (pa_cons pe_int pa_nil)))) pa_nil)))) pa_nil)))
      (pss_cons (ps_set (i := 2) sc44.nd rfl (.inl rfl) (pe_callB call_len_seq (by rfl) B.len (by decide +kernel) (pa_cons (pe_k O40 hr (by decide) (by rfl) (pa_cons (pv 1) pa_nil)) pa_nil)))
      (pss_cons (ps_set (i := 4) sc44.nd rfl (.inl rfl) (pe_k O41 hr (by decide) (by rfl) (pa_cons (pv 1) (pa_cons (pe_lc (own := [("_law_at", 3)]) (by rfl) sc44.nd (pi_range1 (by rfl) B.range (pa_cons (pv 2) pa_nil)) (blkOk_by (own := [("_law_at", 3)]) (N := N44) (sc := defScope (topS 44)) (by decide +kernel)) (fun _ _ _ _ _ => (pg_name (i := 3) sc44.nd rfl (.inl rfl))) (fun _ _ _ _ _ => pts_nil) (fun _ _ _ _ _ => (pe_op op_add pe_int (pe_k O32 hr (by decide) (by rfl) (pa_cons (pv 0) (pa_cons pe_int pa_nil)))))) pa_nil))))
      (pss_cons (ps_set (i := 5) sc44.nd rfl (.inl rfl) (pe_k O41 hr (by decide) (by rfl) (pa_cons (pv 1) (pa_cons (pe_lc (own := [("_law_at", 3)]) (by rfl) sc44.nd (pi_range1 (by rfl) B.range (pa_cons (pv 2) pa_nil)) (blkOk_by (own := [("_law_at", 3)]) (N := N44) (sc := defScope (topS 44)) (by decide +kernel)) (fun _ _ _ _ _ => (pg_name (i := 3) sc44.nd rfl (.inl rfl))) (fun _ _ _ _ _ => pts_nil) (fun _ _ _ _ _ => (pe_op op_add pe_int (pe_k O32 hr (by decide) (by rfl) (pa_cons (pv 0) (pa_cons pe_int pa_nil)))))) pa_nil))))
      (pss_cons (ps_if (PW.pt (pw_and (pt_cmpR op_ne (pv 5) pe_str (nomark _)) (pw_and1 (pt_cmpR op_eq (pe_k O32 hr (by decide) (by rfl) (pa_cons (pv 0) (pa_cons pe_int pa_nil))) pe_int (nomark _))))) (pss_cons (ps_set (i := 3) sc44.nd rfl (.inl rfl) (pe_k O32 hr (by decide) (by rfl) (pa_cons (pv 0) (pa_cons (pe_callB call_len_str (by rfl) B.len (by decide +kernel) (pa_cons (pv 5) pa_nil)) pa_nil))))
      (pss_one (ps_set (i := 5) sc44.nd rfl (.inl rfl) (pe_op op_add_str (pe_op op_add_str (pe_slice sl_str (pv 5) po_none (po_some (pv 3))) (pe_k O33 hr (by decide) (by rfl) (pa_cons (pv 0) (pa_cons pe_str pa_nil)))) (pe_slice sl_str (pv 5) (po_some (pe_op op_add (pv 3) pe_int)) po_none))))) pss_nil)
      (pss_one (ps_ret (pe_tup (pa_cons (pv 4) (pa_cons (pv 5) pa_nil)))))))))), ?_⟩)
  · obtain ⟨p, sc, ns, rfl, _⟩ := h
    rfl
  · obtain ⟨p, sc, ns, rfl, hL, hQ⟩ := h
    refine ⟨_, rfl, _, rfl, p, sc, ns, 4, rfl, by omega, by omega, hL, fun H1 r1 hr1 v1 l1 => ?_⟩
    refine ⟨_, _, rfl, rfl, p, sc, ns, 10, 1 + r1, by rw [Int.natCast_add]; rfl, l1, by omega, by omega, by omega, fun H2 l v2 l2 hWl hll => ?_⟩
    refine ⟨l, rfl, hWl, by omega, fun H3 s3 => ?_⟩
    have hcl := Sc.core_len l
    have hWc : Wd (Sc.core l) := fun x hx => hWl x (Sc.core_mem hx)
    refine ⟨_, rfl, Sc.core l, rfl, hWc, by omega, fun H4 a s4 na ha => ⟨_, _, rfl, .inl (SqL.of ha), ?_⟩⟩
    rw [rowV_len]
    have sv4 : Sv p H H4 := v1.trans (v2.trans (Sv.same (s3.trans s4)))
    have l4 := (l2.same s3).same s4
    have hgl := gaps_len_le (Sc.core l)
    generalize hb : Sc.core l = bare at *
    have hg1 : (Sc.gaps bare).length ≤ 10 := by omega
    have heb : ∀ e ∈ Sc.ends Sc.k0 bare, e.2 ≤ (Sc.gaps bare).length := fun e he => by
      rw [← hb] at he ⊢
      exact Sc.core_marks_lt (Sc.mem_marks he)
    have hgg : ∀ ws : List Nat, ws.length = (Sc.gaps bare).length → (∀ x ∈ ws, 1 ≤ x) → Sc.gaps (Sc.grown bare ws) = ws := fun ws h1 h2 => by
      rw [← hb] at h1 ⊢
      exact Sc.gaps_grown h1 h2
    have hWg : ∀ ws, Wd (Sc.grown bare ws) := fun ws x hx => hWc x (Sc.grown_mem hx)
    refine ⟨_, rfl, _, rfl, _, rfl, by omega, by omega, fun D5 n5 => ?_⟩
    refine lc_draw (ns := ns) (sc := sc) (k := 3) (by omega) (by omega) (fun _ => rfl) (fun _ => rfl) l4 n5 (by omega) fun H5 ws1 v5 l5 hD5 hw1 hk1 => ?_
    rw [Int.toNat_natCast] at hw1
    refine ⟨bare, ws1, D5, rfl, hWc, by omega, SqL.of hD5, by omega, fun x hx => by have := hk1 x hx; omega, fun e he => by rw [hw1]; exact heb e he, fun H6 s6 => ?_⟩
    have l6 := l5.same s6
    refine ⟨_, rfl, _, rfl, _, rfl, by omega, by omega, fun D7 n7 => ?_⟩
    refine lc_draw (ns := ns) (sc := sc) (k := 4) (by omega) (by omega) (fun _ => rfl) (fun _ => rfl) l6 n7 (by omega) fun H7 ws2 v7 l7 hD7 hw2 hk2 => ?_
    rw [Int.toNat_natCast] at hw2
    refine ⟨bare, ws2, D7, rfl, hWc, by omega, SqL.of hD7, by omega, fun x hx => by have := hk2 x hx; omega, fun e he => by rw [hw2]; exact heb e he, fun H8 s8 => ?_⟩
    have l8 := l7.same s8
    have sv8 : Sv p H H8 := sv4.trans (v5.trans ((Sv.same s6).trans (v7.trans (Sv.same s8))))
    have g1 := hgg ws1 hw1 fun x hx => (hk1 x hx).1
    have hlu : (Sc.grown bare ws1).length ≤ 30 := by
      have := Sc.grown_len (b := bare) (B := 3) fun x hx => (hk1 x hx).2
      omega
    have hlv : (Sc.grown bare ws2).length ≤ 40 := by
      have := Sc.grown_len (b := bare) (B := 4) fun x hx => (hk2 x hx).2
      omega
    have hnil : Sc.grown bare ws1 = [] → Sc.grown bare ws2 = [] := fun h => by
      rw [grown_nil (fun x hx => (hk1 x hx).1) (fun e he => by rw [hw1]; exact heb e he) h]
      rfl
    have two : ∀ v, Wd v → v.length ≤ 40 → Two (Sc.grown bare ws1) v := fun v h1 h2 => ⟨hWg ws1, h1, by omega, h2, by rw [g1]; exact fun x hx => (hk1 x hx).2⟩
    have hWv := hWg ws2
    generalize Sc.grown bare ws2 = v at hlv hWv hnil ⊢
    generalize Sc.grown bare ws1 = u at hlu two hnil ⊢
    have fin : ∀ (H9 : Hp) (v' : List Nat), (u = [] → v' = []) → Sv p H H9 → LR K H9 p sc ns → Wd v' → v'.length ≤ 40 → ∀ t, H9 t = none → Q (.ref t) (upd H9 t (.tup [.str (S u), .str (S v')])) := fun H9 v' hn' s9 l9 hW' hl' t nt =>
      hQ _ t u v' (s9.trans (Sv.same (same_upd nt))) (l9.same (same_upd nt)) (two v' hW' hl') hlu hn' upd_same
    refine ⟨_, rfl, rfl, !decide (v = []), ?_, ?_⟩
    · show V.bl (!decide (V.str (S v) = V.str "")) = _
      have : (V.str (S v) = V.str "") ↔ v = [] := by
        rw [S_nil]
        exact ⟨fun h => S_inj (V.str.inj h), fun h => by rw [h]⟩
      simp only [this]
    by_cases hv0 : v = []
    · rw [decide_eq_true hv0]
      refine iteF (iteF ?_)
      exact ⟨_, rfl, _, rfl, (by decide : 2 ≤ sizeLine), fun t nt => fin H8 v hnil sv8 l8 hWv hlv t nt⟩
    · rw [decide_eq_false hv0]
      have hvpos : 1 ≤ v.length := List.length_pos_iff.mpr hv0
      refine iteT ?_
      refine ⟨_, rfl, p, sc, ns, 5, rfl, by omega, by omega, l8, fun H9 r9 hr9 v9 l9 => ?_⟩
      refine ⟨rfl, decide (r9 = 0), ?_, ?_⟩
      · show V.bl (decide (V.int (r9 : Nat) = V.int 0)) = _
        have : (V.int (r9 : Nat) = V.int 0) ↔ r9 = 0 := ⟨fun h => by have := V.int.inj h; omega, fun h => by rw [h]; rfl⟩
        simp only [this]
      by_cases h90 : r9 = 0
      · rw [decide_eq_true h90]
        refine iteT ?_
        refine ⟨_, rfl, _, rfl, _, rfl, str_small (by omega), ?_⟩
        rw [S_len]
        refine ⟨p, sc, ns, v.length, rfl, hvpos, by omega, l9, fun H10 k hk v10 l10 => ?_⟩
        refine ⟨_, rfl, _, rfl, _, rfl, _, rfl, str_small (by omega), ?_⟩
        rw [cut_to]
        refine ⟨_, rfl, p, sc, ns, l10, .inl ⟨rfl, fun H11 c hc v11 l11 => ?_⟩⟩
        have hkt : (v.take k).length = k := by
          rw [List.length_take]
          omega
        refine ⟨_, _, rfl, rfl, by rw [S_len, S_len, hkt, sizeLine_eq]; show k + 1 ≤ _; omega, ?_⟩
        refine ⟨_, rfl, _, rfl, _, _, rfl, rfl, _, rfl, _, rfl, str_small (by omega), ?_⟩
        rw [show (((k : Nat) : Int) + 1) = ((k + 1 : Nat) : Int) by omega, cut_from, S_app]
        have hkd : (v.drop (k + 1)).length = v.length - (k + 1) := List.length_drop
        refine ⟨_, _, rfl, rfl, by rw [S_len, S_len, List.length_append, hkt, hkd, sizeLine_eq]; show k + 1 + _ ≤ _; omega, ?_⟩
        rw [S_app]
        refine ⟨_, rfl, _, rfl, (by decide : 2 ≤ sizeLine), fun t nt => fin H11 _ (fun h => absurd (hnil h) hv0) (sv8.trans (v9.trans (v10.trans v11))) l11 ?_ ?_ t nt⟩
        · intro x hx
          rcases List.mem_append.mp hx with e | e
          · rcases List.mem_append.mp e with e | e
            · exact hWv x (List.mem_of_mem_take e)
            · have : x = c := by simpa using e
              rw [this]
              exact hc
          · exact hWv x (List.mem_of_mem_drop e)
        · rw [List.length_append, List.length_append, hkt, hkd]
          show k + 1 + _ ≤ _
          omega
      · rw [decide_eq_false h90]
        refine iteF ?_
        exact ⟨_, rfl, _, rfl, (by decide : 2 ≤ sizeLine), fun t nt => fin H9 v hnil (sv8.trans v9) l9 hWv hlv t nt⟩
end Sd

/-! ScD15 -/
/-! law. -/
namespace Sd
open PySem PySem.Spec PyProof.Rows L2 Sr
variable {P : Program} {w : World} {K : PySem.W.Frag} {mg : Str → Option Value} {base : Heap}
theorem hu65 {k : Nat} {A : Around} (r : Room k A) : A.units + 65 < cLine := by
  have := r.un
  omega
theorem count_eq {u v : List Nat} (h : Two u v) : cr u v = (Sc.rows2 u v).length := by
  unfold cr
  by_cases hg : grows u v = true
  · rw [if_pos hg, rows2_of hg, Sc.rows_len fun p hp => ⟨(h.ab hp).1, (h.ab hp).2.2.1⟩]
  · rw [if_neg hg, rows2_not (by rw [Bool.not_eq_true] at hg; exact hg)]
    rfl
theorem Two.sum {u v : List Nat} (h : Two u v) : (Sc.gaps v).sum ≤ 40 := Nat.le_trans (last_le v) h.lv
theorem any_rows (R : List (List Nat)) (r : List Nat) : ((R.map rowD).any fun z => PyData.eqv z (rowD r)) = decide (r ∈ R) := by
  induction R with
  | nil => rfl
  | cons s R ih =>
    rw [List.map_cons, List.any_cons, ih, eqv_row]
    by_cases h : s = r
    · subst h
      simp
    · have h2 : ¬ r = s := fun e => h e.symm
      simp [h, h2]
theorem idxL_get {α : Type} [BEq α] [LawfulBEq α] {l : List α} {x : α} (h : x ∈ l) : l[l.idxOf x]? = some x := by
  have a : l.idxOf x < l.length := List.idxOf_lt_length_iff.mpr h
  rw [List.getElem?_eq_getElem a, List.getElem_idxOf]
theorem idxL_first {α : Type} [BEq α] [LawfulBEq α] {c : α} : ∀ {r : List α} {m : Nat}, r[m]? = some c → r.idxOf c ≤ m
  | [], _, h => by simp at h
  | x :: r, m, h => by
    rw [List.idxOf_cons]
    by_cases e : x = c
    · subst e
      simp
    · have e2 : (x == c) = false := by
        rw [← Bool.not_eq_true]
        exact fun q => e (eq_of_beq q)
      rw [e2]
      cases m with
      | zero => simp at h; exact absurd h e
      | succ m =>
        have := idxL_first (r := r) (m := m) (by simpa using h)
        simp
        omega
theorem ones_row (k : Nat) : (List.replicate k [V.int 1]).flatten = rowV (List.replicate k 1) := by
  unfold rowV
  rw [List.map_replicate]
  induction k with
  | zero => rfl
  | succ k ih =>
    rw [List.replicate_succ, List.replicate_succ, List.flatten_cons, ih]
    rfl
theorem Al.two {n : Nat} {H : Hp} {s t : Addr} {r : List Nat} (hl : r.length ≤ 1000) (h1 : H s = some (.tup (rowV r))) (h2 : H t = some (.tup (rowV r))) : Al (n + 2) H (.ref s) (.ref t) := by
  refine .inr (.inr ⟨s, t, _, _, rfl, rfl, .inl ⟨h1, h2⟩, rfl, by rw [rowV_len]; exact hl, fun i a b ha hb => ?_⟩)
  rw [ha] at hb
  cases hb
  obtain ⟨m, _, rfl⟩ := rowV_at ha
  exact .inr (.inl ⟨_, rfl, rfl⟩)
theorem cn_letters {u : List Nat} (hW : Wd u) (h : ∀ c ∈ [97, 98, 99, 100], u.count c = 0) : u = [] := by
  cases u with
  | nil => rfl
  | cons x r =>
    exfalso
    have h1 := h x (hW.mem List.mem_cons_self)
    rw [List.count_cons_self] at h1
    omega
abbrev N45 : List Str := ["_law_script", "_law_row", "_law_one", "_law_other", "_law_rows", "_law_a", "_law_b", "_law_later", "_law_told", "_law_due", "_law_rank", "_law_last", "_law_drawn", "_law_more", "_law_letter", "_law_at"]
theorem sc45 : FnScope N45 ["_law_script"] (defScope (topS 45)) := ⟨rfl, rfl, rfl, by decide +kernel, rfl, by decide +kernel, by decide +kernel⟩
def spLaw (K : PySem.W.Frag) : Sp := fun vs H Q _ => ∃ (sc : Addr) (ns : List Int), vs = [.ref sc] ∧ SqL K H sc (ns.map V.int) ∧ ∀ H', Q (.bl true) H'
/-- what holds behind the rows -/
structure At (K : PySem.W.Frag) (H : Hp) (p sc q : Addr) (ns : List Int) (R : List (List Nat)) : Prop where
  lr : LR K H p sc ns
  rs : TupL rowV H q R
  ne : q ≠ p
theorem At.same {H H' : Hp} {p sc q : Addr} {ns : List Int} {R : List (List Nat)} (h : At K H p sc q ns R) (s : Same H H') : At K H' p sc q ns R := ⟨h.lr.same s, h.rs.same s, h.ne⟩
theorem At.sv {H H' : Hp} {p sc q : Addr} {ns : List Int} {R : List (List Nat)} (h : At K H p sc q ns R) (s : Sv p H H') (l : LR K H' p sc ns) : At K H' p sc q ns R := by
  obtain ⟨vs, hv⟩ := h.lr.lst
  exact ⟨l, h.rs.sv s h.ne hv, h.ne⟩
/-- a def by its function object -/
theorem mkFn {x : Str} {i k : Nat} {N ps : List Str} {sp : Sp} {g : Addr} {fd : FuncData} (F : FunD K x x (defArgs (topS i)) (defBody (topS i)) (defScope (topS i)) [] [] g fd) (S : FnScope N ps (defScope (topS i))) (len : ∀ vs H Q E, sp vs H Q E → vs.length = ps.length)
    (hbody : ∀ (f : Addr) (cdv : Value) (A : Around) (outer : List Env) (s : Shared) (H : Hp) (vs : List V) (Q : VK) (E : XK), Room k (A.deeper (envOfC x (defScope (topS i)) s.heap.objs.size f cdv)) → sp vs H Q E →
      ∃ t, PSs (cxOf CX0 P w K mg base N x (defScope (topS i)) f cdv A outer s H E).nox (defBody (topS i)) t ∧ t { nx := fun _ H' => Q .non H', rt := Q } (start N vs) H) : FnOk P w K mg base CX0 (k + 1) g fd ps sp := by
  refine F.ok S len fun cdv A outer s H vs Q E hr hsp => ?_
  obtain ⟨t, h, q⟩ := hbody g cdv A outer s H vs Q E hr hsp
  exact ⟨t, h.nox, q⟩
theorem ok_law (B : Bs mg) {g : Addr} {fd : FuncData} (D : FunD K "law" "law" (defArgs (topS 45)) (defBody (topS 45)) (defScope (topS 45)) [] [] g fd) (O44 : Ok P w K mg base 4 "_law_pair" (spPair K)) (O39 : Ok P w K mg base 3 "_law_core" spCore) (O40 : Ok P w K mg base 3 "_law_gaps" spGaps) (O42 : Ok P w K mg base 4 "_law_sums" (spSums 4))
    (O22 : Ok P w K mg base 5 "count_rules" spCount) (O23 : Ok P w K mg base 5 "least_rule" (spRow Sc.leastOf)) (O24 : Ok P w K mg base 5 "greatest_rule" (spRow Sc.greatestOf)) (O43 : Ok P w K mg base 1 "_law_row_said" spSaid) (O34 : Ok P w K mg base 3 "_law_alike" (spAlike 3))
    (O32 : Ok P w K mg base 1 "_law_taken" (spTaken K)) (O26 : Ok P w K mg base 5 "rule_at" spRuleAt) (O33 : Ok P w K mg base 2 "_law_pick" (spPick K)) (O28 : Ok P w K mg base 5 "rank_of_rule" spRankRule) : FnOk P w K mg base CX0 6 g fd ["_law_script"] (spLaw K) := by
  refine mkFn D sc45 (fun vs H Q E h => ?_) (fun f cdv A outer s H vs Q E hr h => ⟨_, (pss_cons (ps_set (i := 1) sc45.nd rfl (.inr rfl) (pe_lst (pa_cons (pv 0) (pa_cons pe_int (pa_cons pe_int (pa_cons pe_int pa_nil))))))
      (pss_cons (ps_asg (pe_k O44 hr (by decide) (by rfl) (pa_cons (pv 1) pa_nil)) (pg_tup (by rfl) (pgs_cons (pg_name (i := 2) sc45.nd rfl (.inr rfl)) (pgs_cons (pg_name (i := 3) sc45.nd rfl (.inr rfl)) pgs_nil))))
      (pss_cons (ps_set (i := 4) sc45.nd rfl (.inl rfl) (pe_lst (pa_cons (pe_tup pa_nil) pa_nil)))
      (C8.pss_cut (ps_if (pt_cmpR op_ne (pe_k O39 hr (by decide) (by rfl) (pa_cons (pv 2) pa_nil)) (pe_k O39 hr (by decide) (by rfl) (pa_cons (pv 3) pa_nil)) (nomark _)) (pss_one (ps_set (i := 4) sc45.nd rfl (.inl rfl) (pe_lst pa_nil))) pss_nil)
      (pss_cons (ps_for PassesOwn.never rfl (pi_zip (by rfl) B.zip (pa_cons (pe_k O40 hr (by decide) (by rfl) (pa_cons (pv 2) pa_nil)) (pa_cons (pe_k O40 hr (by decide) (by rfl) (pa_cons (pv 3) pa_nil)) pa_nil))) (pg_tup (by rfl) (pgs_cons (pg_name (i := 5) sc45.nd rfl (.inl rfl)) (pgs_cons (pg_name (i := 6) sc45.nd rfl (.inl rfl)) pgs_nil))) (pss_cons (ps_set (i := 7) sc45.nd rfl (.inl rfl) (pe_lst pa_nil))
      (pss_cons (ps_for PassesOwn.never rfl (pi_list (pv 4)) (pg_name (i := 8) sc45.nd rfl (.inr rfl)) (pss_one (ps_set (i := 7) sc45.nd rfl (.inl rfl) (pe_op op_cat (pv 7) (pe_lc (own := [("_law_more", 13)]) (by rfl) sc45.nd (pi_list (pe_k O42 hr (by decide) (by rfl) (pa_cons (pv 5) (pa_cons (pv 6) pa_nil)))) (blkOk_by (own := [("_law_more", 13)]) (N := N45) (sc := defScope (topS 45)) (by decide +kernel)) (fun _ _ _ _ _ => (pg_name (i := 13) sc45.nd rfl (.inl rfl))) (fun _ _ _ _ _ => pts_nil) (fun _ _ _ _ _ => (pe_op (op_catAK K rfl) (pv 8) (pv 13))))))))
      (pss_one (ps_set (i := 4) sc45.nd rfl (.inl rfl) (pv 7))))))
      (pss_cons (ps_if (pt_cmpR op_gt (pe_callB call_len_seq (by rfl) B.len (by decide +kernel) (pa_cons (pv 4) pa_nil)) pe_int (nomark _)) (pss_one (ps_ret (pe_cmpR op_eq (pe_k O22 hr (by decide) (by rfl) (pa_cons (pv 2) (pa_cons (pv 3) pa_nil))) (pe_callB call_len_seq (by rfl) B.len (by decide +kernel) (pa_cons (pv 4) pa_nil)) (nomark _)))) pss_nil)
      (pss_cons (ps_if (PW.pt (pw_or (pt_cmpR (op_neD hr.units) (pe_lc (own := [("_law_told", 8)]) (by rfl) sc45.nd (pi_list (pv 4)) (blkOk_by (own := [("_law_told", 8)]) (N := N45) (sc := defScope (topS 45)) (by decide +kernel)) (fun _ _ _ _ _ => (pg_name (i := 8) sc45.nd rfl (.inl rfl))) (fun _ _ _ _ _ => (pts_one (pt_cmpR op_ne (pe_k O43 hr (by decide) (by rfl) (pa_cons (pv 8) (pa_cons (pv 2) pa_nil))) (pv 3) (nomark _)))) (fun _ _ _ _ _ => (pv 8))) (pe_lst pa_nil) (nomark _)) (pw_or1 (pt_cmpR (op_neD hr.units) (pv 4) (pe_callB cr_sortR (by rfl) B.sorted (by decide +kernel) (pa_cons (pv 4) pa_nil)) (nomark _))))) (pss_one (ps_ret pe_bl)) pss_nil)
      (C8.pss_cut (ps_set (i := 9) sc45.nd rfl (.inl rfl) (pe_lst (pa_cons (pe_callB call_len_seq (by rfl) B.len (by decide +kernel) (pa_cons (pv 4) pa_nil)) (pa_cons (pe_ifExp (pt_cmpR (op_neD hr.units) (pv 4) (pe_lst pa_nil) (nomark _)) (pe_ix ix_list (pv 4) pe_int (fun _ _ => rfl)) pe_non) (pa_cons (pe_ifExp (pt_cmpR (op_neD hr.units) (pv 4) (pe_lst pa_nil) (nomark _)) (pe_ix ix_list (pv 4) (pe_un un_neg pe_int) (fun _ _ => rfl)) pe_non) pa_nil)))))
      (C8.pss_cut (ps_if (pt_not (pt_val (pe_k O34 hr (by decide) (by rfl) (pa_cons (pe_lst (pa_cons (pe_k O22 hr (by decide) (by rfl) (pa_cons (pv 2) (pa_cons (pv 3) pa_nil))) (pa_cons (pe_k O23 hr (by decide) (by rfl) (pa_cons (pv 2) (pa_cons (pv 3) pa_nil))) (pa_cons (pe_k O24 hr (by decide) (by rfl) (pa_cons (pv 2) (pa_cons (pv 3) pa_nil))) pa_nil)))) (pa_cons (pv 9) pa_nil))))) (pss_one (ps_ret pe_bl)) pss_nil)
      (pss_cons (ps_set (i := 10) sc45.nd rfl (.inl rfl) (pe_k O32 hr (by decide) (by rfl) (pa_cons (pv 1) (pa_cons (pe_op op_add (pe_callB call_len_seq (by rfl) B.len (by decide +kernel) (pa_cons (pv 4) pa_nil)) pe_int) pa_nil))))
      (C8.pss_cut (ps_if (pt_not (pt_val (pe_k O34 hr (by decide) (by rfl) (pa_cons (pe_k O26 hr (by decide) (by rfl) (pa_cons (pv 2) (pa_cons (pv 3) (pa_cons (pv 10) pa_nil)))) (pa_cons (pe_ifExp (pt_cmpR op_lt (pv 10) (pe_callB call_len_seq (by rfl) B.len (by decide +kernel) (pa_cons (pv 4) pa_nil)) (nomark _)) (pe_ix ix_list (pv 4) (pv 10) (fun _ _ => rfl)) pe_non) pa_nil))))) (pss_one (ps_ret pe_bl)) pss_nil)
      (pss_cons (ps_set (i := 11) sc45.nd rfl (.inl rfl) (pe_callB (cr_max (by rfl)) (by rfl) B.max (by decide +kernel) (pa_cons (pe_lc (own := [("_law_letter", 14)]) (by rfl) sc45.nd (pi_str pe_str) (blkOk_by (own := [("_law_letter", 14)]) (N := N45) (sc := defScope (topS 45)) (by decide +kernel)) (fun _ _ _ _ _ => (pg_name (i := 14) sc45.nd rfl (.inl rfl))) (fun _ _ _ _ _ => pts_nil) (fun _ _ _ _ _ => (pe_m1 PySem.F.slot_str_count PySem.F.type_str_count mt_count (pv 2) (pv 14)))) pa_nil)))
      (C8.pss_cut (ps_set (i := 12) sc45.nd rfl (.inl rfl) (pe_ifExp (pt_cmpR (op_neD hr.units) (pv 4) (pe_lst pa_nil) (nomark _)) (pe_k O33 hr (by decide) (by rfl) (pa_cons (pv 1) (pa_cons (pv 4) pa_nil))) (pe_op (OpR.or op_rep1 op_repT) (pe_tup (pa_cons pe_int pa_nil)) (pv 11))))
      (C8.pss_cut (ps_if (pt_cmpR op_eq (pe_k O32 hr (by decide) (by rfl) (pa_cons (pv 1) (pa_cons pe_int pa_nil))) pe_int (nomark _)) (pss_one (ps_set (i := 12) sc45.nd rfl (.inl rfl) (pe_callTy call_tuple_of (by rfl) B.tuple (by decide +kernel) (pa_cons (pe_lc (own := [("_law_at", 15)]) (by rfl) sc45.nd (pi_range1 (by rfl) B.range (pa_cons (pe_op op_add (pv 11) (pe_k O32 hr (by decide) (by rfl) (pa_cons (pv 1) (pa_cons pe_int pa_nil)))) pa_nil)) (blkOk_by (own := [("_law_at", 15)]) (N := N45) (sc := defScope (topS 45)) (by decide +kernel)) (fun _ _ _ _ _ => (pg_name (i := 15) sc45.nd rfl (.inl rfl))) (fun _ _ _ _ _ => pts_nil) (fun _ _ _ _ _ => (pe_op op_add pe_int (pe_k O32 hr (by decide) (by rfl) (pa_cons (pv 1) (pa_cons pe_int pa_nil)))))) pa_nil)))) pss_nil)
      (pss_one (ps_ret (pe_k O34 hr (by decide) (by rfl) (pa_cons (pe_k O28 hr (by decide) (by rfl) (pa_cons (pv 2) (pa_cons (pv 3) (pa_cons (pv 12) pa_nil)))) (pa_cons (pe_ifExp (pt_cmpR (op_inD (hu65 hr)) (pv 12) (pv 4) (by rfl)) (pe_bm PySem.F.plainAttrs_list PySem.F.slot_list_index PySem.F.type_list_index (mt_indexD (hu65 hr)) (pv 4) (pa_cons (pv 12) pa_nil)) pe_non) pa_nil))))))))))))))))))), ?_⟩)
  · obtain ⟨sc, ns, rfl, _⟩ := h
    rfl
  · obtain ⟨sc, ns, rfl, hS, hQ⟩ := h
    refine ⟨_, rfl, (by decide : 4 ≤ sizeLine), fun p np => ?_⟩
    have hL : LR K (upd H p (.lst [.ref sc, .int 0, .int 4610, .int 0])) p sc ns := LR.start hS np
    generalize upd H p (.lst [.ref sc, .int 0, .int 4610, .int 0]) = H1 at hL
    refine ⟨_, rfl, p, sc, ns, rfl, hL, fun H2 t u v v2 l2 h2 hu30 hnil ht => ?_⟩
    have lu := h2.lu
    have lv := h2.lv
    refine ⟨t, _, rfl, SqT.of ht, rfl, _, _, rfl, _, _, rfl, rfl, ?_⟩
    refine ⟨Nat.zero_le _, fun o no => ⟨(by decide : 1 ≤ sizeLine), fun q0 nq0 => ?_⟩⟩
    -- the rows at the start
    refine ⟨fun σ H' => ∃ q, At K H' p sc q ns (Sc.rowsI u v 0) ∧ σ = [some (.ref sc), some (.ref p), some (.str (S u)), some (.str (S v)), some (.ref q), none, none, none, none, none, none, none, none, none, none, none], ?_, ?_⟩
    · have s4 : Same H2 (upd (upd H2 o (.tup [])) q0 (.lst [.ref o])) := (same_upd no).trans (same_upd nq0)
      have hT : TupL rowV (upd (upd H2 o (.tup [])) q0 (.lst [.ref o])) q0 [[]] := ⟨[o], upd_same, .cons ((same_upd nq0) _ _ upd_same) .nil⟩
      obtain ⟨vp, hvp⟩ := l2.lst
      have nq2 : H2 q0 = none := (same_upd no).free nq0
      have hqp : q0 ≠ p := (ne_of_none hvp nq2).symm
      generalize upd (upd H2 o (.tup [])) q0 (.lst [.ref o]) = H4 at s4 hT
      refine ⟨_, rfl, u, rfl, h2.wu, by omega, fun H5 s5 => ⟨_, rfl, v, rfl, h2.wv, by omega, fun H6 s6 => ⟨rfl, _, by rw [S_ne], ?_⟩⟩⟩
      have s46 := s4.trans (s5.trans s6)
      rw [Sc.rowsI_zero]
      by_cases hc : Sc.core u = Sc.core v
      · rw [decide_eq_true hc, if_pos hc]
        refine iteF ?_
        exact ⟨q0, ⟨l2.same s46, (hT.same s5).same s6, hqp⟩, rfl⟩
      · rw [decide_eq_false hc, if_neg hc]
        refine iteT ⟨Nat.zero_le _, fun q1 nq1 => ?_⟩
        have l6 := l2.same s46
        obtain ⟨vp6, hvp6⟩ := l6.lst
        exact ⟨q1, ⟨l6.same (same_upd nq1), TupL.nil, (ne_of_none hvp6 nq1).symm⟩, rfl⟩
    rintro σ H7 ⟨q, hAt, rfl⟩
    clear hL l2 v2 ht no nq0
    -- all rows
    refine ⟨_, rfl, u, rfl, h2.wu, by omega, fun H8 ga s8 na ha => ⟨_, rfl, v, rfl, h2.wv, by omega, fun H9 gb s9 nb hb => ?_⟩⟩
    refine ⟨ga, gb, _, _, rfl, SqL.of (s9 _ _ ha), SqL.of hb, ?_⟩
    have hfew := Sc.rowsI_few (u := u) (v := v) (fun p hp => ⟨(h2.ab hp).2.1, (h2.ab hp).2.2.2⟩) h2.sum
    have at9 := (hAt.same s8).same s9
    have ha9 := s9 _ _ ha
    refine for_it (walk_zip (zip_n (Sc.gaps u) (Sc.gaps v))) (fun i σ H' => Same H9 H' ∧ ∃ (q : Addr) (a b l c : Option V), At K H' p sc q ns (Sc.rowsI u v i) ∧ σ = [some (.ref sc), some (.ref p), some (.str (S u)), some (.str (S v)), some (.ref q), a, b, l, c, none, none, none, none, none, none, none])
      ⟨Same.refl _, q, none, none, none, none, at9, rfl⟩ (fun i σ H' _ g => ⟨SqL.of (g.1 _ _ ha9), SqL.of (g.1 _ _ hb)⟩) (fun i x σ H10 H11 hi g y => ?_) (fun σ H' g => ?_)
    · obtain ⟨sm, q, a0, b0, l0, c0, hA, rfl⟩ := g
      obtain ⟨T, e, rfl, hT, rfl, he⟩ := pair_at y
      obtain ⟨g1, g2, g3, g4⟩ := h2.ab (List.mem_of_getElem? he)
      have hstep := Sc.rowsI_step (u := u) (v := v) he
      have hf1 := hfew (i + 1)
      have s11 : Same H10 (upd H10 T (.tup [.int (e.1 : Nat), .int (e.2 : Nat)])) := same_upd hT
      refine ⟨T, _, rfl, SqT.of upd_same, rfl, _, _, rfl, _, _, rfl, rfl, ?_⟩
      have hA11 := hA.same s11
      generalize upd H10 T (.tup [.int (e.1 : Nat), .int (e.2 : Nat)]) = H12 at s11 hA11
      refine ⟨Nat.zero_le _, fun q1 nq1 => ?_⟩
      obtain ⟨vp, hvp⟩ := hA11.lr.lst
      have hq1p : q1 ≠ p := (ne_of_none hvp nq1).symm
      have s13 : Same H12 (upd H12 q1 (.lst [])) := same_upd nq1
      have hT1 : TupL rowV (upd H12 q1 (.lst [])) q1 ([] : List (List Nat)) := TupL.nil
      have hA13 := hA11.same s13
      generalize upd H12 q1 (.lst []) = H13 at s13 hT1 hA13 ⊢
      obtain ⟨vs, hv, hvl, hSq, hGet⟩ := hA13.rs.seq (K := K)
      refine ⟨_, rfl, q, rfl, ⟨_, hSq⟩, ?_⟩
      refine for_it walk_list (fun j σ H' => Same H13 H' ∧ ∃ (q2 : Addr) (c : Option V), q2 ≠ p ∧ TupL rowV H' q2 (((Sc.rowsI u v i).take j).flatMap fun t => (Sc.sums e.1 e.2).map (t ++ ·)) ∧ σ = [some (.ref sc), some (.ref p), some (.str (S u)), some (.str (S v)), some (.ref q), some (.int (e.1 : Nat)), some (.int (e.2 : Nat)), some (.ref q2), c, none, none, none, none, none, none, none])
        ⟨Same.refl _, q1, c0, hq1p, hT1, rfl⟩ (fun j σ H' _ g => g.1.seq hSq) (fun j x σ H14 H15 hj g y => ?_) (fun σ H' g => ?_)
      · obtain ⟨sm2, q2, c1, hq2p, hT2, rfl⟩ := g
        obtain ⟨rfl, hx⟩ := y
        rw [hvl] at hj
        have gr := List.getElem?_eq_getElem hj
        generalize (Sc.rowsI u v i)[j] = r at gr
        obtain ⟨tt, htt, hto⟩ := hGet j _ gr
        rw [htt] at hx
        cases hx
        have hrl : r.length ≤ 40 := Nat.le_trans (Sc.rowsI_len (List.mem_of_getElem? gr)) (Nat.le_trans (last_le u) lu)
        have hsm := Sc.sums_small g2 g4
        obtain ⟨v2s, hv2, hv2l, _, _⟩ := hT2.seq (K := K)
        refine ⟨_, rfl, _, rfl, _, rfl, e.1, e.2, rfl, by omega, g2, g4, fun H16 p2 s16 np2 hT16 => ?_⟩
        obtain ⟨ws, hw, hwl, hSw, hGetW⟩ := hT16.seq (K := K)
        refine ⟨p2, rfl, ⟨_, hSw⟩, fun D nD => ?_⟩
        refine lc_tups walk_list rowV ((Sc.sums e.1 e.2).map (r ++ ·)) ?_ ?_ nD (fun H17 s17 => s17.seq hSw) (fun k x H17 H18 hk s17 y R hR => ?_) (fun H17 s17 hD => ?_)
        · rw [hwl, List.length_map]
        · rw [hwl]
          exact Nat.le_trans hsm.2 (by decide)
        · obtain ⟨rfl, hx⟩ := y
          rw [hwl] at hk
          have gm := List.getElem?_eq_getElem hk
          generalize (Sc.sums e.1 e.2)[k] = m at gm
          obtain ⟨tm, htm, htmo⟩ := hGetW k _ gm
          rw [htm] at hx
          cases hx
          have hml := ((Sc.mem_sums _ _ _).mp (List.mem_of_getElem? gm)).1
          have hy : ((Sc.sums e.1 e.2).map (r ++ ·))[k]? = some (r ++ m) := by
            rw [List.getElem?_map, gm]
            rfl
          have hto18 := s17 _ _ (s16 _ _ (sm2 _ _ hto))
          have htm18 := s17 _ _ htmo
          refine ⟨rfl, _, rfl, _, rfl, tt, tm, _, _, rfl, rfl, SqT.of hto18, SqT.of htm18, ?_, fun h => ?_, fun _ h => ?_, fun _ _ w' nw => ?_⟩
          · rw [rowV_len, rowV_len, hml, sizeLine_eq]
            omega
          · refine hR tm _ _ (Same.refl _) hy ?_
            rw [rowV_app, h]
            exact htm18
          · refine hR tt _ _ (Same.refl _) hy ?_
            rw [rowV_app, h, List.append_nil]
            exact hto18
          · refine hR w' _ _ (same_upd nw) hy ?_
            rw [upd_same, rowV_app]
        · have hv3 := s17 _ _ (s16 _ _ hv2)
          have hT3 := (hT2.same s16).same s17
          obtain ⟨zs, hz, hzl, _, _⟩ := hD.seq (K := K)
          have hlen := Sc.fmap_take (Sc.rowsI u v i) (fun t => (Sc.sums e.1 e.2).map (t ++ ·)) (j + 1)
          rw [← hstep, Sc.fmap_snoc gr, List.length_append] at hlen
          have hA17 := ((hA13.same sm2).same s16).same s17
          obtain ⟨vp17, hvp17⟩ := hA17.lr.lst
          refine ⟨q2, D, _, _, rfl, rfl, hv3, hz, ?_, fun w' nw => ?_⟩
          · rw [hv2l, hzl, sizeLine_eq]
            omega
          · refine ⟨(sm2.trans (s16.trans s17)).trans (same_upd nw), w', some (.ref tt), (ne_of_none hvp17 nw).symm, ?_, rfl⟩
            rw [Sc.fmap_snoc gr]
            exact hT3.cat hD nw hv3 hz
      · obtain ⟨sm2, q2, c1, hq2p, hT2, rfl⟩ := g
        rw [hvl, List.take_length, ← hstep] at hT2
        exact ⟨_, rfl, sm.trans (s11.trans (s13.trans sm2)), q2, _, _, _, _, ⟨hA13.lr.same sm2, hT2, hq2p⟩, rfl⟩
    · obtain ⟨sm, q, a0, b0, l0, c0, hA, rfl⟩ := g
      rw [Sc.rowsI_all] at hA
      have hRc := count_eq h2
      have hRm : ∀ r ∈ Sc.rows2 u v, Sc.core u = Sc.core v ∧ r.length = Sc.last u ∧ (∀ x ∈ r, 1 ≤ x) ∧ Sc.sd r Sc.k0 u = v := fun r hr => Sc.mem_rows2.mp hr
      have hRe : ∀ r ∈ Sc.rows2 u v, ∀ x ∈ r, x ≤ 40 := fun r hr x hx => Nat.le_trans (Sc.rows2_entry hr hx) h2.sum
      have hRl : ∀ r ∈ Sc.rows2 u v, r.length ≤ 1000 := fun r hr => by
        rw [(hRm r hr).2.1]
        have := last_le u
        omega
      have hlx := Sc.rows2_lx u v
      have hne2 : 2 ≤ (Sc.rows2 u v).length → ∀ r ∈ Sc.rows2 u v, r ≠ [] := Sc.rows2_ne
      have hgR : grows u v = true → ∃ r1 r2, (Sc.rows2 u v)[0]? = some (Sc.leastOf (AB u v)) ∧ (Sc.rows2 u v) = r1 ++ [r2] ∧ r2 = Sc.greatestOf (AB u v) := fun hg => by
        have hab1 : ∀ p ∈ AB u v, 1 ≤ p.1 ∧ p.1 ≤ p.2 := fun p hp => ⟨(h2.ab hp).1, grows_le hg p hp⟩
        have e1 := Sc.rows_head hab1
        have e2 := Sc.rows_last hab1
        rw [rows2_of hg]
        rcases last_cases (Sc.rowsOf (AB u v)) with e | ⟨r1, r2, e⟩
        · rw [e] at e1
          cases e1
        · refine ⟨r1, r2, by rw [← List.head?_eq_getElem?]; exact e1, e, ?_⟩
          rw [e, List.getLast?_concat] at e2
          exact Option.some.inj e2
      have hgN : grows u v = false → Sc.rows2 u v = [] := rows2_not
      have hRg : ∀ (i : Nat) (r : List Nat), (Sc.rows2 u v)[i]? = some r → grows u v = true := fun i r h => by
        cases hg : grows u v with
        | true => rfl
        | false =>
          rw [hgN hg] at h
          simp at h
      have hRof : grows u v = true → Sc.rows2 u v = Sc.rowsOf (AB u v) := rows2_of
      have hR0 : u = [] → v = [] → Sc.rows2 u v = [[]] := fun e1 e2 => by
        subst e1
        subst e2
        decide +kernel
      have hReq : Sc.rows2 u v = Sc.rows2 u v := rfl
      generalize hRR : Sc.rows2 u v = R at hA hRc hRm hRe hRl hlx hne2 hgR hgN hRg hRof hR0
      clear hReq
      obtain ⟨vs, hv, hvl, hSq, hGet⟩ := hA.rs.seq (K := K)
      -- more than 400
      refine ⟨_, rfl, q, vs, rfl, .inl hSq, _, _, rfl, rfl, decide (400 < R.length), ?_, ?_⟩
      · show V.bl (decide ((400 : Int) < ((vs.length : Nat) : Int))) = _
        have : ((400 : Int) < ((vs.length : Nat) : Int)) ↔ 400 < R.length := by
          rw [hvl]
          omega
        simp only [this]
      by_cases hbig : 400 < R.length
      · rw [decide_eq_true hbig]
        refine iteT ?_
        refine ⟨_, rfl, _, rfl, u, v, rfl, h2, fun H20 s20 => ⟨_, rfl, q, vs, rfl, .inl (s20.seq hSq), rfl, ?_⟩⟩
        show Q (.bl (decide (V.int (cr u v : Nat) = V.int (vs.length : Nat)))) H20
        rw [hRc, hvl, decide_eq_true rfl]
        exact hQ H20
      rw [decide_eq_false hbig]
      refine iteF ?_
      -- every row says the other, and they are sorted
      refine ⟨_, rfl, q, rfl, ⟨_, hSq⟩, fun D nD => ?_⟩
      refine lc_none walk_list nD (fun H1 s1 => s1.seq hSq) (fun i x H1 H3 hi s1 y Rk hRk => ?_) (fun H20 s20 hD => ?_)
      · obtain ⟨rfl, hx⟩ := y
        rw [hvl] at hi
        have gr := List.getElem?_eq_getElem hi
        generalize R[i] = r at gr
        obtain ⟨tt, htt, hto⟩ := hGet i _ gr
        rw [htt] at hx
        cases hx
        have hm := List.mem_of_getElem? gr
        have hmm := hRm r hm
        refine ⟨rfl, _, rfl, _, rfl, tt, r, u, rfl, s1 _ _ hto, h2.wu, by omega, hRe r hm, fun c => by rw [hmm.2.1]; exact Sc.cn_le_last u c, fun H5 s5 => ⟨_, rfl, rfl, false, ?_, hRk _ H5 s5⟩⟩
        rw [S_ne, decide_eq_true hmm.2.2.2]
        rfl
      have hA20 := hA.same s20
      refine ⟨Nat.zero_le _, fun Z nZ => ⟨.list [], .list [], dp_nil ((same_upd nZ) _ _ hD), dp_nil upd_same, shaped_nil, shaped_nil, false, by rw [eqv_nil]; rfl, iteF ?_⟩⟩
      have hA21 := hA20.same (same_upd (o := .lst []) nZ)
      generalize upd H20 Z (.lst []) = H21 at hA21
      obtain ⟨ts, hq21, hpt⟩ := hA21.rs
      have htl := pt_len hpt
      refine ⟨_, rfl, _, rfl, q, ts, R, rfl, hq21, hpt, fun h => hne2 (by omega), hlx, fun z nz => ?_⟩
      have hA22 := hA21.same (same_upd (o := .lst (ts.map V.ref)) nz)
      have hz22 : TupL rowV (upd H21 z (.lst (ts.map V.ref))) z R := ⟨ts, upd_same, pt_same (same_upd nz) hpt⟩
      refine ⟨rowsD R, rowsD R, dp_rows hA22.rs, dp_rows hz22, shaped_rows R, shaped_rows R, false, ?_, iteF ?_⟩
      · rw [SeqAt.eqv_refl _ (SeqAt.canLay_of_shaped (shaped_rows R))]
        rfl
      clear hz22 hA21 hA20 hD s20
      generalize upd H21 z (.lst (ts.map V.ref)) = H22 at hA22
      clear hGet hSq hv hq21 hpt
      -- what is due
      refine ⟨fun σ H' => ∃ (d : Addr) (x1 x2 : V), At K H' p sc q ns R ∧ H' d = some (.lst [.int (R.length : Nat), x1, x2]) ∧ (grows u v = true → ∃ t1 t2, x1 = .ref t1 ∧ H' t1 = some (.tup (rowV (Sc.leastOf (AB u v)))) ∧ x2 = .ref t2 ∧ H' t2 = some (.tup (rowV (Sc.greatestOf (AB u v))))) ∧ (grows u v = false → x1 = .non ∧ x2 = .non) ∧
        σ = [some (.ref sc), some (.ref p), some (.str (S u)), some (.str (S v)), some (.ref q), a0, b0, l0, c0, some (.ref d), none, none, none, none, none, none], ?_, ?_⟩
      · obtain ⟨vs, hv, hvl, hSq, hGet⟩ := hA22.rs.seq (K := K)
        refine ⟨_, rfl, q, vs, rfl, .inl hSq, ?_⟩
        rw [hvl]
        refine ⟨_, rfl, Nat.zero_le _, fun Z nZ => ⟨rowsD R, .list [], dp_rows (hA22.same (same_upd nZ)).rs, dp_nil upd_same, shaped_rows R, shaped_nil, !R.isEmpty, ?_, ?_⟩⟩
        · show V.bl (!PyData.eqv (.list (R.map rowD)) (.list [])) = _
          rw [eqv_nil, List.isEmpty_map]
        have hA23 := hA22.same (same_upd (o := .lst []) nZ)
        have s23 : Same H22 (upd H22 Z (.lst [])) := same_upd nZ
        generalize upd H22 Z (.lst []) = H23 at hA23 s23
        by_cases hg : grows u v = true
        · obtain ⟨r1, r2, hr0, hre, hr2⟩ := hgR hg
          have hne : R.isEmpty = false := by
            rw [hre]
            simp
          rw [hne]
          obtain ⟨t1, ht1, hto1⟩ := hGet 0 _ hr0
          have hrl : R[r1.length]? = some r2 := by
            rw [hre]
            simp
          obtain ⟨t2, ht2, hto2⟩ := hGet _ _ hrl
          have hlast : atI vs (-1) = some (.ref t2) := by
            rcases last_cases vs with e | ⟨vs1, v1, e⟩
            · rw [e] at ht1
              cases ht1
            · have h3 : vs1.length = r1.length := by
                rw [e, hre, List.length_append, List.length_append, List.length_singleton, List.length_singleton] at hvl
                omega
              rw [e, ← h3] at ht2
              simp at ht2
              rw [e, ht2]
              exact atI_last _ _
          refine iteT ⟨_, rfl, q, vs, 0, _, rfl, rfl, SqL.of (s23 _ _ hv), atI_nat (j := 0) ht1, ?_⟩
          refine ⟨_, rfl, Nat.zero_le _, fun Z2 nZ2 => ⟨rowsD R, .list [], dp_rows (hA23.same (same_upd nZ2)).rs, dp_nil upd_same, shaped_rows R, shaped_nil, true, ?_, ?_⟩⟩
          · show V.bl (!PyData.eqv (.list (R.map rowD)) (.list [])) = _
            rw [eqv_nil, List.isEmpty_map, hne]
            rfl
          have hA24 := hA23.same (same_upd (o := .lst []) nZ2)
          have s24 : Same H23 (upd H23 Z2 (.lst [])) := same_upd nZ2
          generalize upd H23 Z2 (.lst []) = H24 at hA24 s24
          refine iteT ⟨_, rfl, _, rfl, q, vs, _, _, rfl, rfl, SqL.of (s24 _ _ (s23 _ _ hv)), hlast, (by decide : 3 ≤ sizeLine), fun d nd => ?_⟩
          refine ⟨d, .ref t1, .ref t2, hA24.same (same_upd nd), upd_same, fun _ => ⟨t1, t2, rfl, (same_upd nd) _ _ (s24 _ _ (s23 _ _ hto1)), rfl, ?_⟩, (fun h => by rw [hg] at h; cases h), rfl⟩
          rw [← hr2]
          exact (same_upd nd) _ _ (s24 _ _ (s23 _ _ hto2))
        · rw [Bool.not_eq_true] at hg
          have hne : R.isEmpty = true := by
            rw [hgN hg]
            rfl
          rw [hne]
          refine iteF ?_
          refine ⟨_, rfl, Nat.zero_le _, fun Z2 nZ2 => ⟨rowsD R, .list [], dp_rows (hA23.same (same_upd nZ2)).rs, dp_nil upd_same, shaped_rows R, shaped_nil, false, ?_, ?_⟩⟩
          · show V.bl (!PyData.eqv (.list (R.map rowD)) (.list [])) = _
            rw [eqv_nil, List.isEmpty_map, hne]
            rfl
          have hA24 := hA23.same (same_upd (o := .lst []) nZ2)
          generalize upd H23 Z2 (.lst []) = H24 at hA24
          refine iteF ⟨(by decide : 3 ≤ sizeLine), fun d nd => ?_⟩
          exact ⟨d, .non, .non, hA24.same (same_upd nd), upd_same, fun h => by (rw [hg] at h; cases h), fun _ => ⟨rfl, rfl⟩, rfl⟩
      rintro σ H30 ⟨d, x1, x2, hA30, hd, hx1, hx2, rfl⟩
      -- count, least, greatest
      refine ⟨fun σ H' => At K H' p sc q ns R ∧ σ = [some (.ref sc), some (.ref p), some (.str (S u)), some (.str (S v)), some (.ref q), a0, b0, l0, c0, some (.ref d), none, none, none, none, none, none], ?_, ?_⟩
      · refine ⟨_, rfl, _, rfl, u, v, rfl, h2, fun H31 s31 => ?_⟩
        have fin : ∀ (H' : Hp) (y1 y2 : V), Same H30 H' → Al 2 H' y1 x1 → Al 2 H' y2 x2 → ∀ z, H' z = none → Al 3 (upd H' z (.lst [.int (cr u v : Nat), y1, y2])) (.ref z) (.ref d) := fun H' y1 y2 s' a1 a2 z nz => by
          refine .inr (.inr ⟨z, d, _, _, rfl, rfl, .inr ⟨upd_same, (same_upd nz) _ _ (s' _ _ hd)⟩, rfl, (by show 3 ≤ 1000; omega), fun i a b ha hb => ?_⟩)
          match i, ha, hb with
          | 0, ha, hb =>
            cases ha
            cases hb
            exact .inr (.inl ⟨(cr u v : Nat), rfl, by rw [hRc]⟩)
          | 1, ha, hb =>
            cases ha
            cases hb
            exact a1.same (same_upd nz)
          | 2, ha, hb =>
            cases ha
            cases hb
            exact a2.same (same_upd nz)
        by_cases hg : grows u v = true
        · obtain ⟨t1, t2, rfl, ht1, rfl, ht2⟩ := hx1 hg
          have hl1 : (Sc.leastOf (AB u v)).length ≤ 1000 := by
            obtain ⟨r1, r2, hr0, hre, hr2⟩ := hgR hg
            exact hRl _ (List.mem_of_getElem? hr0)
          have hl2 : (Sc.greatestOf (AB u v)).length ≤ 1000 := by
            obtain ⟨r1, r2, hr0, hre, hr2⟩ := hgR hg
            rw [← hr2]
            exact hRl _ (by rw [hre]; simp)
          refine ⟨_, rfl, _, rfl, u, v, rfl, h2, (fun h => by rw [hg] at h; cases h), fun _ H32 w1 s32 hw1 => ?_⟩
          refine ⟨_, rfl, _, rfl, u, v, rfl, h2, (fun h => by rw [hg] at h; cases h), fun _ H33 w2 s33 hw2 => ?_⟩
          refine ⟨(by decide : 3 ≤ sizeLine), fun z nz => ⟨_, rfl, _, _, rfl, fin H33 (.ref w1) (.ref w2) (s31.trans (s32.trans s33)) ?_ ?_ z nz, fun H34 s34 => ⟨true, rfl, iteF ?_⟩⟩⟩
          · exact Al.two (n := 0) hl1 (s33 _ _ hw1) ((s31.trans (s32.trans s33)) _ _ ht1)
          · exact Al.two (n := 0) hl2 hw2 ((s31.trans (s32.trans s33)) _ _ ht2)
          · exact ⟨hA30.same ((s31.trans (s32.trans s33)).trans ((same_upd nz).trans s34)), rfl⟩
        · rw [Bool.not_eq_true] at hg
          obtain ⟨rfl, rfl⟩ := hx2 hg
          refine ⟨_, rfl, _, rfl, u, v, rfl, h2, (fun _ H32 s32 => ?_), fun h => by (rw [hg] at h; cases h)⟩
          refine ⟨_, rfl, _, rfl, u, v, rfl, h2, (fun _ H33 s33 => ?_), fun h => by (rw [hg] at h; cases h)⟩
          refine ⟨(by decide : 3 ≤ sizeLine), fun z nz => ⟨_, rfl, _, _, rfl, fin H33 .non .non (s31.trans (s32.trans s33)) (.inl ⟨rfl, rfl⟩) (.inl ⟨rfl, rfl⟩) z nz, fun H34 s34 => ⟨true, rfl, iteF ?_⟩⟩⟩
          exact ⟨hA30.same ((s31.trans (s32.trans s33)).trans ((same_upd nz).trans s34)), rfl⟩
      clear hx1 hx2 hd hA30
      rintro σ H40 ⟨hA40, rfl⟩
      -- the rule at a rank
      obtain ⟨vs40, hv40, hvl40, hSq40, hGet40⟩ := hA40.rs.seq (K := K)
      refine ⟨_, rfl, _, rfl, q, vs40, rfl, .inl hSq40, _, _, rfl, rfl, p, sc, ns, R.length + 2, ?_, by omega, by omega, hA40.lr, fun H41 k hk v41 l41 => ?_⟩
      · rw [hvl40, Int.natCast_add]
        rfl
      have hA41 := hA40.sv v41 l41
      clear hv40 hvl40 hSq40 hGet40
      refine ⟨fun σ H' => At K H' p sc q ns R ∧ σ = [some (.ref sc), some (.ref p), some (.str (S u)), some (.str (S v)), some (.ref q), a0, b0, l0, c0, some (.ref d), some (.int (k : Nat)), none, none, none, none, none], ?_, ?_⟩
      · obtain ⟨vs, hv, hvl, hSq, hGet⟩ := hA41.rs.seq (K := K)
        have kd : V.bl (decide ((k : Int) < ((vs.length : Nat) : Int))) = V.bl (decide (k < R.length)) := by
          have : ((k : Int) < ((vs.length : Nat) : Int)) ↔ k < R.length := by
            rw [hvl]
            omega
          simp only [this]
        by_cases hkl : k < R.length
        · have gk := List.getElem?_eq_getElem hkl
          generalize R[k] = r at gk
          have hg := hRg k r gk
          obtain ⟨t1, ht1, hto1⟩ := hGet k r gk
          refine ⟨_, rfl, _, rfl, _, rfl, u, v, k, rfl, h2, (fun h => by rw [hg] at h; cases h), (fun _ s hs H42 w s42 hw => ?_), fun _ hle => ?_⟩
          · have es : s = r := by
              rw [← hRof hg, gk] at hs
              exact (Option.some.inj hs).symm
            subst es
            refine ⟨_, rfl, _, rfl, q, vs, rfl, .inl (s42.seq hSq), _, _, rfl, rfl, true, ?_, iteT ?_⟩
            · exact kd.trans (by rw [decide_eq_true hkl])
            refine ⟨_, rfl, _, rfl, q, vs, _, _, rfl, rfl, s42.seq hSq, atI_nat ht1, ?_⟩
            refine ⟨_, _, rfl, Al.two (n := 1) (hRl _ (List.mem_of_getElem? gk)) hw (s42 _ _ hto1), fun H43 s43 => ⟨true, rfl, iteF ?_⟩⟩
            exact ⟨hA41.same (s42.trans s43), rfl⟩
          · exfalso
            rw [← hRof hg] at hle
            omega
        · refine ⟨_, rfl, _, rfl, _, rfl, u, v, k, rfl, h2, (fun _ H42 s42 => ?_), (fun hg s hs => ?_), fun _ _ H42 s42 => ?_⟩
          · refine ⟨_, rfl, _, rfl, q, vs, rfl, .inl (s42.seq hSq), _, _, rfl, rfl, false, kd.trans (by rw [decide_eq_false hkl]), iteF ?_⟩
            exact ⟨_, _, rfl, .inl ⟨rfl, rfl⟩, fun H43 s43 => ⟨true, rfl, iteF ⟨hA41.same (s42.trans s43), rfl⟩⟩⟩
          · exfalso
            rw [← hRof hg] at hs
            exact hkl (List.getElem?_eq_some_iff.mp hs).1
          · refine ⟨_, rfl, _, rfl, q, vs, rfl, .inl (s42.seq hSq), _, _, rfl, rfl, false, kd.trans (by rw [decide_eq_false hkl]), iteF ?_⟩
            exact ⟨_, _, rfl, .inl ⟨rfl, rfl⟩, fun H43 s43 => ⟨true, rfl, iteF ⟨hA41.same (s42.trans s43), rfl⟩⟩⟩
      clear hA40 hA41 v41
      rintro σ H50 ⟨hA50, rfl⟩
      -- the most of one letter
      refine ⟨_, rfl, fun D5 n5 => ?_⟩
      have h4 : ("abcd" : Str).cps.size = 4 := by
        rw [S_abcd]
        rfl
      refine lc_vals walk_str (rowV ([97, 98, 99, 100].map fun c => u.count c)) ?_ ?_ n5 (fun _ _ => True.intro) (fun i x H51 H52 hi s51 y Rk hRk => ?_) (fun H51 s51 hD5 => ?_)
      · rw [h4]
        rfl
      · rw [h4]
        omega
      · obtain ⟨rfl, c, hc, rfl⟩ := y
        refine ⟨rfl, _, rfl, ⟨_, rfl⟩, _, rfl, _, _, rfl, rfl, ?_⟩
        refine hRk _ _ (Same.refl _) ?_
        rw [show (⟨#[c]⟩ : Str) = S [c] from rfl, count_S]
        refine rowV_get ?_
        rw [S_abcd] at hc
        have hc : ([97, 98, 99, 100] : List Nat)[i]? = some c := S_at hc
        rw [List.getElem?_map, hc]
        rfl
      have hA51 := hA50.same s51
      refine ⟨D5, ([97, 98, 99, 100].map fun c => u.count c).map fun (n : Nat) => (n : Int), rfl, SqL.of (by rw [← rowV_int]; exact hD5), (by show 0 < 4; omega), fun m hm hmax => ?_⟩
      obtain ⟨ml, hml, rfl⟩ := List.mem_map.mp hm
      have hml30 : ml ≤ 30 := by
        obtain ⟨c, _, rfl⟩ := List.mem_map.mp hml
        exact Nat.le_trans List.count_le_length hu30
      have hml0 : ml = 0 → u = [] := fun h0 => cn_letters h2.wu fun c hc => by
        have := hmax ((u.count c : Nat) : Int) (List.mem_map.mpr ⟨u.count c, List.mem_map.mpr ⟨c, hc, rfl⟩, rfl⟩)
        rw [h0] at this
        omega
      clear hmax hm hml hD5
      -- a row
      refine ⟨fun σ H' => ∃ (td : Addr) (r : List Nat), At K H' p sc q ns R ∧ H' td = some (.tup (rowV r)) ∧ r.length ≤ 1000 ∧ (∀ x ∈ r, 1 ≤ x ∧ x ≤ 40) ∧
        σ = [some (.ref sc), some (.ref p), some (.str (S u)), some (.str (S v)), some (.ref q), a0, b0, l0, c0, some (.ref d), some (.int (k : Nat)), some (.int (ml : Nat)), some (.ref td), none, none, none], ?_, ?_⟩
      · refine ⟨_, rfl, Nat.zero_le _, fun Z nZ => ⟨rowsD R, .list [], dp_rows (hA51.same (same_upd nZ)).rs, dp_nil upd_same, shaped_rows R, shaped_nil, !R.isEmpty, ?_, ?_⟩⟩
        · show V.bl (!PyData.eqv (.list (R.map rowD)) (.list [])) = _
          rw [eqv_nil, List.isEmpty_map]
        have hA52 := hA51.same (same_upd (o := .lst []) nZ)
        generalize upd H51 Z (.lst []) = H52 at hA52
        by_cases hR : R = []
        · have hne : R.isEmpty = true := by
            rw [hR]
            rfl
          rw [hne]
          refine iteF ?_
          refine ⟨(by decide : 1 ≤ sizeLine), fun o1 n1 => ⟨_, rfl, ?_⟩⟩
          have hA53 := hA52.same (same_upd (o := .tup [.int 1]) n1)
          have ho1 : (upd H52 o1 (.tup [.int 1])) o1 = some (.tup [.int 1]) := upd_same
          generalize upd H52 o1 (.tup [.int 1]) = H53 at hA53 ho1 ⊢
          have h1 : 1 ≤ ml := by
            rcases Nat.lt_or_ge 0 ml with h | h
            · exact h
            · exfalso
              have e := hml0 (by omega)
              have := hR0 e (hnil e)
              rw [hR] at this
              cases this
          by_cases hm1 : ml = 1
          · subst hm1
            refine .inl ⟨o1, _, rfl, rfl, SqT.of ho1, ?_⟩
            exact ⟨o1, [1], hA53, ho1, by decide, fun x hx => by (have : x = 1 := by simpa using hx); omega, rfl⟩
          · refine .inr ⟨o1, _, _, rfl, rfl, SqT.of ho1, by simp, by omega, by omega, by decide, fun o2 n2 => ?_⟩
            rw [Int.toNat_natCast, ones_row]
            refine ⟨o2, List.replicate ml 1, hA53.same (same_upd n2), upd_same, by rw [List.length_replicate]; omega, fun x hx => ?_, rfl⟩
            have := List.eq_of_mem_replicate hx
            omega
        · have hne : R.isEmpty = false := by
            cases R with
            | nil => exact absurd rfl hR
            | cons a l => rfl
          rw [hne]
          refine iteT ?_
          refine ⟨_, rfl, _, rfl, p, sc, ns, hA52.lr, .inr ⟨q, R, rfl, hA52.ne, hA52.rs, List.length_pos_iff.mpr hR, by omega, fun H53 td r v53 l53 hr htd => ?_⟩⟩
          exact ⟨td, r, hA52.sv v53 l53, htd, hRl r hr, fun x hx => ⟨(hRm r hr).2.2.1 x hx, hRe r hr x hx⟩, rfl⟩
      rintro σ H60 ⟨td0, r0, hA60, htd0, hr0l, hr0e, rfl⟩
      refine ⟨fun σ H' => ∃ (td : Addr) (r : List Nat), At K H' p sc q ns R ∧ H' td = some (.tup (rowV r)) ∧ r.length ≤ 1000 ∧ (∀ x ∈ r, 1 ≤ x ∧ x ≤ 40) ∧
        σ = [some (.ref sc), some (.ref p), some (.str (S u)), some (.str (S v)), some (.ref q), a0, b0, l0, c0, some (.ref d), some (.int (k : Nat)), some (.int (ml : Nat)), some (.ref td), none, none, none], ?_, ?_⟩
      · refine ⟨_, rfl, p, sc, ns, 3, rfl, by omega, by omega, hA60.lr, fun H61 k1 hk1 v61 l61 => ?_⟩
        have hA61 := hA60.sv v61 l61
        obtain ⟨vp60, hvp60⟩ := hA60.lr.lst
        have htd1 : H61 td0 = some (.tup (rowV r0)) := v61 _ _ htd0 fun e => by
          rw [e, hvp60] at htd0
          cases htd0
        refine ⟨rfl, decide (k1 = 0), ?_, ?_⟩
        · show V.bl (decide (V.int (k1 : Nat) = V.int 0)) = _
          have : (V.int (k1 : Nat) = V.int 0) ↔ k1 = 0 := ⟨fun h => by have := V.int.inj h; omega, fun h => by rw [h]; rfl⟩
          simp only [this]
        by_cases h10 : k1 = 0
        · rw [decide_eq_true h10]
          refine iteT ?_
          refine ⟨_, rfl, _, rfl, p, sc, ns, 2, rfl, by omega, by omega, l61, fun H62 k2 hk2 v62 l62 => ⟨_, _, rfl, rfl, _, rfl, by omega, by omega, fun D6 n6 => ?_⟩⟩
          have hA62 := hA61.sv v62 l62
          refine lc_draw (ns := ns) (sc := sc) (k := 3) (by omega) (by omega) (fun _ => rfl) (fun _ => rfl) l62 n6 (by omega) fun H63 ws v63 l63 hD6 hwl hwk => ?_
          have hA63 := hA62.sv v63 l63
          refine ⟨D6, _, rfl, .inl ⟨SqL.of hD6, fun l nl => ?_⟩⟩
          exact ⟨l, ws, hA63.same (same_upd nl), upd_same, by omega, fun x hx => ⟨(hwk x hx).1, by have := (hwk x hx).2; omega⟩, rfl⟩
        · rw [decide_eq_false h10]
          exact iteF ⟨td0, r0, hA61, htd1, hr0l, hr0e, rfl⟩
      clear hA60 htd0 hr0l hr0e
      rintro σ H70 ⟨td, r, hA70, htd, hrl, hre, rfl⟩
      -- its rank
      refine ⟨_, rfl, _, rfl, _, rfl, u, v, r, td, rfl, h2, htd, hrl, hre, ?_⟩
      rw [hRR]
      have inR : ∀ H71, Same H70 H71 → rInD K (.ref td) (.ref q) H71 fun x H1 => x = .bl (decide (r ∈ R)) ∧ H1 = H71 := fun H71 s71 =>
        ⟨rowD r, R.map rowD, dp_row (s71 _ _ htd), dp_rows (hA70.same s71).rs, shaped_row r, shaped_rows R, by rw [any_rows], rfl⟩
      refine ⟨fun i hi H71 s71 => ?_, fun hn H71 s71 => ?_⟩
      · have hmem := List.mem_of_getElem? hi
        refine ⟨_, rfl, _, rfl, rowD r, R.map rowD, dp_row (s71 _ _ htd), dp_rows (hA70.same s71).rs, shaped_row r, shaped_rows R, true, by rw [any_rows, decide_eq_true hmem], iteT ?_⟩
        obtain ⟨ts7, hts7, _⟩ := (hA70.same s71).rs
        refine ⟨_, rfl, .inl ⟨rfl, _, SqL.of hts7⟩, _, rfl, q, .ref td, rowD r, R.map rowD, R.idxOf r, rowD r, rfl, rfl, dp_rows (hA70.same s71).rs, dp_row (s71 _ _ htd), shaped_rows R, shaped_row r, ?_, ?_, fun m z hm hz => ?_, ?_⟩
        · rw [List.getElem?_map, idxL_get hmem]
          rfl
        · rw [eqv_row, decide_eq_true rfl]
        · rw [List.getElem?_map] at hz
          cases e : R[m]? with
          | none => rw [e] at hz; cases hz
          | some s =>
            rw [e] at hz
            cases hz
            rw [eqv_row]
            refine decide_eq_false fun es => ?_
            rw [es] at e
            have := idxL_first e
            omega
        · have ei : i = R.idxOf r := by
            have h1 := idxL_first hi
            rcases Nat.lt_or_ge (R.idxOf r) i with h | h
            · exfalso
              obtain ⟨hi1, hi2⟩ := List.getElem?_eq_some_iff.mp hi
              obtain ⟨hj1, hj2⟩ := List.getElem?_eq_some_iff.mp (idxL_get hmem)
              have := List.pairwise_iff_getElem.mp hlx _ _ hj1 hi1 h
              rw [hi2, hj2] at this
              exact Sc.lx_irrefl _ this
            · omega
          refine ⟨_, _, rfl, .inr (.inl ⟨(i : Int), rfl, by rw [ei]⟩), fun H72 _ => hQ H72⟩
      · refine ⟨_, rfl, _, rfl, rowD r, R.map rowD, dp_row (s71 _ _ htd), dp_rows (hA70.same s71).rs, shaped_row r, shaped_rows R, false, by rw [any_rows, decide_eq_false hn], iteF ?_⟩
        exact ⟨_, _, rfl, .inl ⟨rfl, rfl⟩, fun H72 _ => hQ H72⟩
end Sd

/-! ScEnd -/
/-! The end: the defs' promises joined, the law by the head. -/
namespace Sd
open PySem PySem.Spec PyProof.Rows L2 Sr
theorem all_ok {P : Program} {w : World} {K : PySem.W.Frag} {h : Heap} {mg : Str → Option Value} {base : Heap} (X : K.In h) (G : h.Ns mainGlobals mg) (c : He.SaysD fas fns K) {g : Addr} {fd : FuncData}
    (F : FunD K "law" "law" (defArgs (topS 45)) (defBody (topS 45)) (defScope (topS 45)) [] [] g fd) : FnOk P w K mg base CX0 6 g fd ["_law_script"] (spLaw K) := by
  have B := bs_of X G c
  have o7 : Ok P w K mg base 1 "is_int" spIsInt := ok_isint B (df7 X G c)
  have o8 : Ok P w K mg base 1 "need_word" spWord := ok_word B (df8 X G c)
  have o10 : Ok P w K mg base 1 "runs_of" spRuns := ok_runs B (df10 X G c)
  have o11 : Ok P w K mg base 2 "marks_of" spMarks := ok_11 B (df11 X G c) o10
  have o12 : Ok P w K mg base 1 "word_of" spMade := ok_wordof B (df12 X G c)
  have o13 : Ok P w K mg base 3 "core_of" spCore := ok_13 B (df13 X G c) o10 o11 o12
  have o14 : Ok P w K mg base 3 "gaps_of" spGaps := ok_14 B (df14 X G c) o11
  have o16 : Ok P w K mg base 2 "need_two" spTwo := ok_two B (df16 X G c) o8
  have o17 : Ok P w K mg base 4 "grows_to" spGrows := ok_grows B (df17 X G c) o13 o14
  have o18 : Ok P w K mg base 1 "product_of" (spProd K) := ok_prod B (df18 X G c)
  have o20 : Ok P w K mg base 1 "choose" spChoose := ok_choose B (df20 X G c)
  have o21 : Ok P w K mg base 2 "ways_between" spWays := ok_ways B (df21 X G c) o20
  have o22 : Ok P w K mg base 5 "count_rules" spCount := ok_count B (df22 X G c) o16 o17 o18 o14 o21
  have o23 : Ok P w K mg base 5 "least_rule" (spRow Sc.leastOf) := ok_23 B (df23 X G c) o16 o17 o14
  have o24 : Ok P w K mg base 5 "greatest_rule" (spRow Sc.greatestOf) := ok_24 B (df24 X G c) o16 o17 o14
  have o25 : Ok P w K mg base 2 "row_at" spRowAt := ok_rowat B (df25 X G c) o20
  have o26 : Ok P w K mg base 5 "rule_at" spRuleAt := ok_ruleat B (df26 X G c) o16 o7 o17 o14 o21 o25
  have o27 : Ok P w K mg base 2 "rank_of_row" spRank := ok_rank B (df27 X G c) o20
  have o29 : Ok P w K mg base 2 "need_row" (spNeed K) := ok_need B (df29 X G c) o7
  have o30 : Ok P w K mg base 1 "said_row" spSaid := ok_said B (df30 X G c)
  have o28 : Ok P w K mg base 5 "rank_of_rule" spRankRule := ok_rankrule B (df28 X G c) o16 o29 o11 o17 o30 o14 o21 o27
  have o32 : Ok P w K mg base 1 "_law_taken" (spTaken K) := ok_taken B (df32 X G c)
  have o33 : Ok P w K mg base 2 "_law_pick" (spPick K) := ok_pick B (df33 X G c) o32
  have o34 : Ok P w K mg base 3 "_law_alike" (spAlike 3) := ok_alike B (df34 X G c) 3
  have o35 : Ok P w K mg base 2 "_law_word" (spLWord K) := ok_lword B (df35 X G c) o32
  have o36 : Ok P w K mg base 1 "_law_ends" spRuns := ok_lends B (df36 X G c)
  have o37 : Ok P w K mg base 2 "_law_marks" spMarks := ok_37 B (df37 X G c) o36
  have o38 : Ok P w K mg base 1 "_law_made" spMade := ok_lmade B (df38 X G c)
  have o39 : Ok P w K mg base 3 "_law_core" spCore := ok_39 B (df39 X G c) o36 o37 o38
  have o40 : Ok P w K mg base 3 "_law_gaps" spGaps := ok_40 B (df40 X G c) o37
  have o41 : Ok P w K mg base 2 "_law_grown" (spGrown K) := ok_grown B (df41 X G c) o36 o38
  have o42 : Ok P w K mg base 4 "_law_sums" (spSums 4) := ok_sums B (df42 X G c) 4
  have o43 : Ok P w K mg base 1 "_law_row_said" spSaid := ok_rowsaid B (df43 X G c)
  have o44 : Ok P w K mg base 4 "_law_pair" (spPair K) := ok_pair B (df44 X G c) o39 o35 o32 o40 o41 o33
  exact ok_law B F o44 o39 o40 o42 o22 o23 o24 o43 o34 o32 o26 o33 o28
theorem facts {P : Program} {w : World} {K : PySem.W.Frag} {h : Heap} {mg : Str → Option Value} {f : Addr} (X : K.In h) (G : h.Ns mainGlobals mg) (hfa : mg ("law" : Str) = some (.ref f)) (c : He.SaysD fas fns K) :
    ∃ fd : FuncData, (∀ (s : Shared) (v : Value), BindsTo s fd ⟨[v], []⟩ [("_law_script", v)]) ∧ ∀ base : Heap, K.In base → base.Ns mainGlobals mg → FnOk P w K mg base CX0 6 f fd ["_law_script"] (spLaw K) := by
  obtain ⟨fd, F⟩ := c.def_ 34 (d := ⟨("law", none), "law", "law", defArgs (topS 45), defBody (topS 45), defScope (topS 45), [], []⟩) rfl
  have e := hfa.symm.trans (He.glo_ok X G (c.fact 34 (f := .glo "law") rfl))
  cases e
  have b := FunD.bindsA (ps := ["_law_script"]) F fun _ _ _ _ _ _ us hl => match us, hl with | [_], _ => rfl
  exact ⟨fd, fun s v => b s [v] rfl, fun base _ _ => all_ok X G c F⟩
end Sd
open PySem PySem.W PySem.Calls PyProof.Rows
theorem PySem.Challenge.cw_saidcounts_k10_whole_rules_between_holds : PySem.Challenge.rw_saidcounts_k10_whole_rules_between.Holds := by
  w_on; o_law
  refine HandSHeadRun.head_any (r := OpenLaw.row PySem.Challenge.rw_saidcounts_k10_whole_rules_between) (q := view (OpenLaw.row PySem.Challenge.rw_saidcounts_k10_whole_rules_between).prog [45]) (H := Sd.hk) (ob := Sd.obs) (M := 3000) (loose := Sd.looseN) (d := HandSHeadRun.topDef (OpenLaw.row PySem.Challenge.rw_saidcounts_k10_whole_rules_between).prog 45) (kwd := []) Sd.obs_eq
    (by kernel_rfl) (fun s => by kernel_rfl) Sd.run (by kernel_rfl) (by kernel_rfl) (by kernel_rfl) (by rfl) (by first | assumption | decide +kernel) (by decide +kernel) ⟨rfl, rfl, rfl, rfl, rfl, by decide +kernel⟩ ?hw ?hc
  case hw => w_witness2
  case hc =>
    refine L2.walk_ofE (l := PySem.Challenge.rw_saidcounts_k10_whole_rules_between) (n := 63) (k := 6) (x := "_law_script") (CX := L2.CX0) rfl (by decide) (by kernel_rfl) ⟨rfl, by decide, by decide⟩ ?F (fun _ _ _ _ z => z)
    intro w mg fa h Y G hmg0
    obtain ⟨K, KX, c⟩ := Y
    have hmg : mg ("law" : PySem.Str) = some (.ref fa) := by
      have e : (HandSHeadRun.topDef (OpenLaw.row PySem.Challenge.rw_saidcounts_k10_whole_rules_between).prog 45).name = ("law" : PySem.Str) := by kernel_rfl
      rw [← e]
      exact hmg0
    obtain ⟨fd, hb, hF⟩ := Sd.facts (P := (PySem.Challenge.rw_saidcounts_k10_whole_rules_between).prog) (w := w) KX G hmg c
    exact ⟨K, fd, Sd.spLaw K, KX, hb, fun H a ns hl _ hS => ⟨a, ns, rfl, hS, fun _ => rfl⟩, hF⟩
