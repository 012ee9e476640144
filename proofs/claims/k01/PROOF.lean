import PyProof.Rows.All
import Wide.All
import OpenK.AllK
import Wide.FinOn
import HandS.ForMost
import HandS.Star
import HandS.Style
import HandS.TupAny
import HandS.Conv
import HandS.IsInst
import HandS.Zip
import HandS.Walk
import KE.DataMinMax
import KE.KTupSum
import KE.GoesMore
import PySem.Challenge.RW_struckboards_k01_whole_coming
set_option Elab.async false
set_option linter.all false
set_option maxRecDepth 100000
set_option maxHeartbeats 4000000  -- a def is one term
/-! Struckboards: the mathematics, in plain Lean, no program in sight. -/
namespace K1
abbrev Board := List (List (Int × Int))
def hB (B : Board) : Nat := B.length
def wB (B : Board) : Nat := (B.getD 0 []).length
def nB (B : Board) : Nat := hB B + wB B
def cA (B : Board) (i j : Nat) : Int := ((B.getD i []).getD j (0, 0)).1
def cB (B : Board) (i j : Nat) : Int := ((B.getD i []).getD j (0, 0)).2
structure BoardOk (B : Board) : Prop where
  h1 : 1 ≤ hB B
  h6 : hB B ≤ 6
  w1 : 1 ≤ wB B
  w6 : wB B ≤ 6
  rows : ∀ r ∈ B, r.length = wB B
  cells : ∀ r ∈ B, ∀ p ∈ r, -1000 ≤ p.1 ∧ p.1 ≤ 1000 ∧ -1000 ≤ p.2 ∧ p.2 ≤ 1000
def rowsL (B : Board) (S : List Nat) : List Nat := (List.range (hB B)).filter fun r => decide (r ∉ S)
def colsL (B : Board) (S : List Nat) : List Nat := (List.range' (hB B) (wB B)).filter fun c => decide (c ∉ S)
theorem mem_rowsL {B : Board} {S : List Nat} {r : Nat} : r ∈ rowsL B S ↔ r < hB B ∧ r ∉ S := by
  unfold rowsL; simp [List.mem_filter]
theorem mem_colsL {B : Board} {S : List Nat} {c : Nat} : c ∈ colsL B S ↔ (hB B ≤ c ∧ c < nB B) ∧ c ∉ S := by
  unfold colsL nB
  rw [List.mem_filter, List.mem_range'_1, decide_eq_true_iff]
/-- the numbers of a line's player left -/
def nums (B : Board) (S : List Nat) (l : Nat) : List Int :=
  if l < hB B then (colsL B S).map fun c => cA B l (c - hB B) else (rowsL B S).map fun r => cB B r (l - hB B)
/-- the second is greater in all that is left -/
def gt (B : Board) (S : List Nat) (l o : Nat) : Prop :=
  (l < hB B ↔ o < hB B) ∧ (l < hB B → ∀ c ∈ colsL B S, cA B l (c - hB B) < cA B o (c - hB B)) ∧ (¬ l < hB B → ∀ r ∈ rowsL B S, cB B r (l - hB B) < cB B r (o - hB B))
/-- a line left can be struck -/
def cf (B : Board) (S : List Nat) (l : Nat) : Prop := ∃ o, o < nB B ∧ o ∉ S ∧ o ≠ l ∧ gt B S l o
open Classical in
noncomputable def gtB (B : Board) (S : List Nat) (l o : Nat) : Bool := decide (gt B S l o)
open Classical in
noncomputable def cfB (B : Board) (S : List Nat) (l : Nat) : Bool := decide (cf B S l)
theorem cfB_iff {B : Board} {S : List Nat} {l : Nat} : cfB B S l = true ↔ cf B S l := by unfold cfB; simp
theorem gtB_iff {B : Board} {S : List Nat} {l o : Nat} : gtB B S l o = true ↔ gt B S l o := by unfold gtB; simp
theorem cfB_not {B : Board} {S : List Nat} {l : Nat} : cfB B S l = false ↔ ¬ cf B S l := by
  rw [← cfB_iff]; cases cfB B S l <;> simp
/-- the list's law: pairwise comparison of two mapped lists -/
theorem zip_all (L : List Nat) (f g : Nat → Int) : (((L.map f).zip (L.map g)).map fun p => decide (p.1 < p.2)).all id = true ↔ ∀ x ∈ L, f x < g x := by
  induction L with
  | nil => simp
  | cons x r ih =>
    simp only [List.map_cons, List.zip_cons_cons, List.all_cons, id, Bool.and_eq_true, decide_eq_true_eq, List.mem_cons, forall_eq_or_imp]
    rw [ih]
theorem nums_len_eq {B : Board} {S : List Nat} {l o : Nat} (h : l < hB B ↔ o < hB B) : (nums B S l).length = (nums B S o).length := by
  unfold nums
  by_cases q : l < hB B
  · rw [if_pos q, if_pos (h.mp q)]; simp
  · rw [if_neg q, if_neg (fun z => q (h.mpr z))]; simp
theorem nums_all {B : Board} {S : List Nat} {l o : Nat} (h : l < hB B ↔ o < hB B) : (((nums B S l).zip (nums B S o)).map fun p => decide (p.1 < p.2)).all id = gtB B S l o := by
  rw [Bool.eq_iff_iff, gtB_iff]
  unfold nums gt
  by_cases q : l < hB B
  · rw [if_pos q, if_pos (h.mp q), zip_all]
    exact ⟨fun z => ⟨h, fun _ => z, fun n => absurd q n⟩, fun z => z.2.1 q⟩
  · rw [if_neg q, if_neg (fun z => q (h.mpr z)), zip_all]
    exact ⟨fun z => ⟨h, fun n => absurd n q, fun _ => z⟩, fun z => z.2.2 q⟩
/-! ### growing lots -/
theorem gt_mono {B : Board} {S T : List Nat} {l o : Nat} (hs : ∀ x ∈ S, x ∈ T) (h : gt B S l o) : gt B T l o := by
  obtain ⟨a, b, c⟩ := h
  refine ⟨a, fun q x hx => b q x ?_, fun q x hx => c q x ?_⟩
  · rw [mem_colsL] at hx ⊢; exact ⟨hx.1, fun z => hx.2 (hs _ z)⟩
  · rw [mem_rowsL] at hx ⊢; exact ⟨hx.1, fun z => hx.2 (hs _ z)⟩
theorem gt_trans {B : Board} {S : List Nat} {l o p : Nat} (h : gt B S l o) (k : gt B S o p) : gt B S l p := by
  obtain ⟨a, b, c⟩ := h
  obtain ⟨a', b', c'⟩ := k
  refine ⟨a.trans a', fun q x hx => ?_, fun q x hx => ?_⟩
  · have := b q x hx; have := b' (a.mp q) x hx; omega
  · have := c q x hx; have := c' (fun z => q (a.mpr z)) x hx; omega
theorem gt_congr {B : Board} {S T : List Nat} {l o : Nat} (hs : ∀ x, x ∈ S ↔ x ∈ T) : gt B S l o ↔ gt B T l o :=
  ⟨gt_mono fun x hx => (hs x).mp hx, gt_mono fun x hx => (hs x).mpr hx⟩
theorem cf_congr {B : Board} {S T : List Nat} {l : Nat} (hs : ∀ x, x ∈ S ↔ x ∈ T) : cf B S l ↔ cf B T l := by
  constructor
  · rintro ⟨o, h1, h2, h3, h4⟩
    exact ⟨o, h1, fun z => h2 ((hs o).mpr z), h3, (gt_congr hs).mp h4⟩
  · rintro ⟨o, h1, h2, h3, h4⟩
    exact ⟨o, h1, fun z => h2 ((hs o).mp z), h3, (gt_congr hs).mpr h4⟩
/-- some row and some column is left -/
def Lft (B : Board) (S : List Nat) : Prop := (∃ r, r < hB B ∧ r ∉ S) ∧ ∃ c, hB B ≤ c ∧ c < nB B ∧ c ∉ S
theorem gt_irrefl {B : Board} {S : List Nat} {l : Nat} (h : Lft B S) : ¬ gt B S l l := by
  rintro ⟨_, b, c⟩
  obtain ⟨⟨r, r1, r2⟩, x, x1, x2, x3⟩ := h
  by_cases q : l < hB B
  · have := b q x (mem_colsL.mpr ⟨⟨x1, x2⟩, x3⟩); omega
  · have := c q r (mem_rowsL.mpr ⟨r1, r2⟩); omega
/-- each line struck has a greater one left -/
def Dom (B : Board) (S : List Nat) : Prop := ∀ o ∈ S, o < nB B → ∃ p, p < nB B ∧ p ∉ S ∧ gt B S o p
theorem dom_nil {B : Board} : Dom B [] := fun o ho => absurd ho (by simp)
theorem Dom.lft {B : Board} {S : List Nat} (ok : BoardOk B) (h : Dom B S) : Lft B S := by
  have h1 := ok.h1
  have w1 := ok.w1
  have n1 : nB B = hB B + wB B := rfl
  constructor
  · by_cases q : (0 : Nat) ∈ S
    · obtain ⟨p, p1, p2, p3⟩ := h 0 q (by omega)
      exact ⟨p, p3.1.mp (by omega), p2⟩
    · exact ⟨0, by omega, q⟩
  · by_cases q : hB B ∈ S
    · obtain ⟨p, p1, p2, p3⟩ := h (hB B) q (by omega)
      refine ⟨p, ?_, p1, p2⟩
      have := p3.1
      omega
    · exact ⟨hB B, Nat.le_refl _, by omega, q⟩
theorem dom_step {B : Board} {S T : List Nat} {l : Nat} (hd : Dom B S) (hT : ∀ x, x ∈ T ↔ x = l ∨ x ∈ S) (hc : cf B S l) : Dom B T := by
  have sub : ∀ x ∈ S, x ∈ T := fun x hx => (hT x).mpr (.inr hx)
  obtain ⟨p, p1, p2, p3, p4⟩ := hc
  have pT : p ∉ T := fun z => by
    rcases (hT p).mp z with q | q
    · exact p3 q
    · exact p2 q
  intro o ho hn
  rcases (hT o).mp ho with e | ho
  · subst e
    exact ⟨p, p1, pT, gt_mono sub p4⟩
  · obtain ⟨q, q1, q2, q3⟩ := hd o ho hn
    by_cases e : q = l
    · subst e
      exact ⟨p, p1, pT, gt_mono sub (gt_trans q3 p4)⟩
    · refine ⟨q, q1, fun z => ?_, gt_mono sub q3⟩
      rcases (hT q).mp z with z | z
      · exact e z
      · exact q2 z
/-- what may be struck behind a lot may be struck behind each greater one that comes, if it is left -/
theorem exchange {B : Board} {S T : List Nat} {l : Nat} (hd : Dom B T) (hl : Lft B T) (hs : ∀ x ∈ S, x ∈ T) (hc : cf B S l) : cf B T l := by
  obtain ⟨o, o1, o2, o3, o4⟩ := hc
  by_cases q : o ∈ T
  · obtain ⟨p, p1, p2, p3⟩ := hd o q o1
    have g : gt B T l p := gt_trans (gt_mono hs o4) p3
    refine ⟨p, p1, p2, fun e => ?_, g⟩
    rw [e] at g
    exact gt_irrefl hl g
  · exact ⟨o, o1, q, o3, gt_mono hs o4⟩
/-! ### a line into a rising lot -/
def insL (l : Nat) : List Nat → List Nat
  | [] => [l]
  | x :: r => if l ≤ x then l :: x :: r else x :: insL l r
theorem insL_perm (l : Nat) : ∀ r : List Nat, (insL l r).Perm (l :: r)
  | [] => List.Perm.refl _
  | x :: r => by
    unfold insL
    split
    · exact List.Perm.refl _
    · exact ((insL_perm l r).cons x).trans (List.Perm.swap l x r)
theorem mem_insL {l x : Nat} {r : List Nat} : x ∈ insL l r ↔ x = l ∨ x ∈ r := by
  rw [(insL_perm l r).mem_iff, List.mem_cons]
theorem insL_len (l : Nat) (r : List Nat) : (insL l r).length = r.length + 1 := by rw [(insL_perm l r).length_eq]; rfl
theorem insL_lt (l : Nat) : ∀ r : List Nat, l ∉ r → r.Pairwise (· < ·) → (insL l r).Pairwise (· < ·)
  | [], _, _ => by simp [insL]
  | x :: r, hn, h => by
    unfold insL
    rw [List.pairwise_cons] at h
    have e : l ≠ x := fun e => hn (by rw [e]; exact List.mem_cons_self)
    split
    · rename_i q
      rw [List.pairwise_cons, List.pairwise_cons]
      refine ⟨fun y hy => ?_, h⟩
      rcases List.mem_cons.mp hy with rfl | hy
      · omega
      · have := h.1 y hy; omega
    · rename_i q
      rw [List.pairwise_cons]
      refine ⟨fun y hy => ?_, insL_lt l r (fun z => hn (List.mem_cons_of_mem _ z)) h.2⟩
      rcases mem_insL.mp hy with rfl | hy
      · omega
      · exact h.1 y hy
/-- two rising lists of the same things are one -/
theorem sorted_eq {a b : List Nat} (ha : a.Pairwise (· < ·)) (hb : b.Pairwise (· < ·)) (h : ∀ x, x ∈ a ↔ x ∈ b) : a = b := by
  have na : a.Nodup := ha.imp fun z => Nat.ne_of_lt z
  have nb : b.Nodup := hb.imp fun z => Nat.ne_of_lt z
  have p : a.Perm b := (List.perm_ext_iff_of_nodup na nb).mpr h
  exact p.eq_of_pairwise (fun x y _ _ h1 h2 => absurd h1 (by omega)) ha hb
/-- .. sorted ints -/
theorem sortedI {a : List Nat} {xs ys : List Int} (ha : a.Pairwise (· < ·)) (px : xs.Perm (a.map fun n : Nat => (n : Int))) (sx : xs.Pairwise (· ≤ ·)) : xs = a.map fun n : Nat => (n : Int) := by
  refine px.eq_of_pairwise (fun x y _ _ h1 h2 => Int.le_antisymm h1 h2) sx ?_
  rw [List.pairwise_map]
  exact ha.imp fun z => by omega
/-! ### rows of strikes -/
inductive Strk (B : Board) : List Nat → List Nat → Prop
  | nil : Strk B [] []
  | snoc {s S : List Nat} {l : Nat} : Strk B s S → l < nB B → l ∉ S → cf B S l → Strk B (s ++ [l]) (insL l S)
def Comes (B : Board) (S : List Nat) : Prop := ∃ s, Strk B s S
section
variable {B : Board} {s S T : List Nat}
theorem Strk.mem (h : Strk B s S) : ∀ x, x ∈ s ↔ x ∈ S := by
  induction h with
  | nil => intro x; simp
  | snoc _ _ _ _ ih =>
    intro x
    rw [List.mem_append, mem_insL, ih, List.mem_singleton]
    exact Or.comm
theorem Strk.len (h : Strk B s S) : s.length = S.length := by
  induction h with
  | nil => rfl
  | snoc _ _ _ _ ih => rw [List.length_append, insL_len, ih]; rfl
theorem Strk.perm (h : Strk B s S) : s.Perm S := by
  induction h with
  | nil => exact .refl _
  | @snoc s S l _ _ _ _ ih =>
    refine List.Perm.trans ?_ (insL_perm l S).symm
    exact (List.perm_append_comm (l₁ := s) (l₂ := [l])).trans (ih.cons l)
theorem Strk.rising (h : Strk B s S) : S.Pairwise (· < ·) := by
  induction h with
  | nil => exact .nil
  | snoc _ _ hn _ ih => exact insL_lt _ _ hn ih
theorem Strk.lt (h : Strk B s S) : ∀ x ∈ S, x < nB B := by
  induction h with
  | nil => intro x hx; simp at hx
  | snoc _ hl _ _ ih =>
    intro x hx
    rcases mem_insL.mp hx with rfl | hx
    · exact hl
    · exact ih x hx
theorem Strk.dom (h : Strk B s S) : Dom B S := by
  induction h with
  | nil => exact dom_nil
  | snoc _ _ _ hc ih => exact dom_step ih (fun x => mem_insL) hc
theorem Strk.lft (ok : BoardOk B) (h : Strk B s S) : Lft B S := h.dom.lft ok
theorem Strk.nodup (h : Strk B s S) : S.Nodup := h.rising.imp fun z => Nat.ne_of_lt z
theorem Strk.snoc_inv {t U : List Nat} {l : Nat} (h : Strk B t U) (e : t = s ++ [l]) : ∃ S, Strk B s S ∧ l < nB B ∧ l ∉ S ∧ cf B S l ∧ U = insL l S := by
  cases h with
  | nil => simp at e
  | snoc h1 h2 h3 h4 =>
    obtain ⟨rfl, e2⟩ := List.append_inj' e rfl
    cases e2
    exact ⟨_, h1, h2, h3, h4, rfl⟩
theorem Strk.fn (h : Strk B s S) : ∀ {T}, Strk B s T → S = T := by
  induction h with
  | nil =>
    intro T k
    generalize e : ([] : List Nat) = t at k
    cases k with
    | nil => rfl
    | snoc => simp at e
  | snoc h1 h2 h3 h4 ih =>
    intro T k
    obtain ⟨S', k1, _, _, _, rfl⟩ := k.snoc_inv rfl
    rw [ih k1]
theorem Strk.pre {t U : List Nat} (h : Strk B t U) : ∀ (r s : List Nat), t = s ++ r → ∃ S, Strk B s S := by
  induction h with
  | nil =>
    intro r s e
    obtain ⟨rfl, _⟩ := List.append_eq_nil_iff.mp e.symm
    exact ⟨[], .nil⟩
  | @snoc t U l h1 h2 h3 h4 ih =>
    intro r s e
    rcases List.eq_nil_or_concat r with rfl | ⟨r', x, er⟩
    · rw [List.append_nil] at e
      subst e
      exact ⟨_, .snoc h1 h2 h3 h4⟩
    · rw [er, List.concat_eq_append, ← List.append_assoc] at e
      obtain ⟨e1, _⟩ := List.append_inj' e rfl
      exact ih r' s e1
theorem Strk.bound (h : Strk B s S) : S.length ≤ nB B := by
  have := List.Nodup.length_le_of_subset (l₂ := List.range (nB B)) h.nodup fun x hx => List.mem_range.mpr (h.lt x hx)
  simpa using this
/-- a row of strikes that cannot be gone on with within told lines strikes the greatest lot of them -/
theorem greatest (ok : BoardOk B) {W : List Nat} (h : Strk B s S) (stop : ∀ l ∈ W, l ∉ S → ¬ cf B S l) {t U : List Nat} (k : Strk B t U) : (∀ x ∈ U, x ∈ W) → ∀ x ∈ U, x ∈ S := by
  induction k with
  | nil => intro _ x hx; simp at hx
  | @snoc t U l k1 k2 k3 k4 ih =>
    intro hW
    have sub : ∀ x ∈ U, x ∈ S := ih fun x hx => hW x (mem_insL.mpr (.inr hx))
    intro x hx
    rcases mem_insL.mp hx with rfl | hx
    · refine Classical.byContradiction fun q => ?_
      exact stop x (hW x (mem_insL.mpr (.inl rfl))) q (exchange h.dom (h.lft ok) sub k4)
    · exact sub x hx
end
/-! ### lots -/
def nR (B : Board) (S : List Nat) : Nat := (S.filter fun x => decide (x < hB B)).length
structure LotOk (B : Board) (S : List Nat) : Prop where
  up : S.Pairwise (· < ·)
  lt : ∀ x ∈ S, x < nB B
  r : nR B S < hB B
  c : S.length - nR B S < wB B
theorem len_split {α : Type} (p : α → Bool) : ∀ S : List α, S.length = (S.filter p).length + (S.filter fun x => !p x).length
  | [] => rfl
  | x :: r => by
    have ih := len_split p r
    rw [List.filter_cons, List.filter_cons]
    cases p x with
    | true => simp; omega
    | false => simp; omega
theorem lotOk_of {B : Board} {S : List Nat} (up : S.Pairwise (· < ·)) (lt : ∀ x ∈ S, x < nB B) (h : Lft B S) : LotOk B S := by
  have nd : S.Nodup := up.imp fun z => Nat.ne_of_lt z
  obtain ⟨⟨r, r1, r2⟩, c, c1, c2, c3⟩ := h
  have e : S.length = (S.filter fun x => decide (x < hB B)).length + (S.filter fun x => !decide (x < hB B)).length := len_split (fun x => decide (x < hB B)) S
  refine ⟨up, lt, ?_, ?_⟩
  · have nd1 : (r :: S.filter fun x => decide (x < hB B)).Nodup := List.nodup_cons.mpr ⟨fun z => r2 ((List.mem_filter.mp z).1), nd.sublist List.filter_sublist⟩
    have := List.Nodup.length_le_of_subset (l₂ := List.range (hB B)) nd1 fun x hx => by
      rcases List.mem_cons.mp hx with rfl | hx
      · exact List.mem_range.mpr r1
      · have := (List.mem_filter.mp hx).2
        exact List.mem_range.mpr (by simpa using this)
    rw [List.length_cons, List.length_range] at this
    unfold nR
    omega
  · have nd1 : (c :: S.filter fun x => !decide (x < hB B)).Nodup := List.nodup_cons.mpr ⟨fun z => c3 ((List.mem_filter.mp z).1), nd.sublist List.filter_sublist⟩
    have := List.Nodup.length_le_of_subset (l₂ := List.range' (hB B) (wB B)) nd1 fun x hx => by
      rcases List.mem_cons.mp hx with rfl | hx
      · exact List.mem_range'_1.mpr ⟨c1, c2⟩
      · obtain ⟨h1, h2⟩ := List.mem_filter.mp hx
        have h3 := lt x h1
        exact List.mem_range'_1.mpr ⟨by simpa using h2, h3⟩
    rw [List.length_cons, List.length_range'] at this
    unfold nR
    omega
theorem Strk.lotOk {B : Board} {s S : List Nat} (ok : BoardOk B) (h : Strk B s S) : LotOk B S := lotOk_of h.rising h.lt (h.lft ok)
/-- the top: what the program's order strikes is the greatest lot within, whatever the law's choice -/
theorem top_eq {B : Board} (ok : BoardOk B) {s C W m : List Nat} (h : Strk B s C) (hCW : ∀ x ∈ C, x ∈ W) (stop : ∀ l ∈ W, l ∉ C → ¬ cf B C l) (hm : Comes B m) (hmW : ∀ x ∈ m, x ∈ W) (hmax : C.length ≤ m.length) : m = C := by
  obtain ⟨t, k⟩ := hm
  have sub := greatest ok h stop k hmW
  have nd := k.nodup
  refine sorted_eq k.rising h.rising fun x => ⟨fun hx => sub x hx, fun hx => ?_⟩
  refine Classical.byContradiction fun q => ?_
  have := List.Nodup.length_le_of_subset (l₂ := C) (List.nodup_cons.mpr ⟨q, nd⟩) fun y hy => by
    rcases List.mem_cons.mp hy with rfl | hy
    · exact hx
    · exact sub y hy
  rw [List.length_cons] at this
  omega
/-! ### the law's own words -/
/-- the lines left, rows first -/
theorem left_all {B : Board} {S : List Nat} {x : Nat} : x ∈ rowsL B S ++ colsL B S ↔ x < nB B ∧ x ∉ S := by
  rw [List.mem_append, mem_rowsL, mem_colsL]
  have : nB B = hB B + wB B := rfl
  constructor
  · rintro (⟨a, b⟩ | ⟨⟨a, a'⟩, b⟩)
    · exact ⟨by omega, b⟩
    · exact ⟨a', b⟩
  · rintro ⟨a, b⟩
    by_cases q : x < hB B
    · exact .inl ⟨q, b⟩
    · exact .inr ⟨⟨by omega, a⟩, b⟩
/-- the lines left of a line's side -/
def sideL (B : Board) (S : List Nat) (l : Nat) : List Nat := if l < hB B then rowsL B S else colsL B S
/-- `_law_over` -/
noncomputable def overL (B : Board) (S : List Nat) (l : Nat) : List Nat := (sideL B S l).filter fun o => gtB B S l o
theorem over_iff {B : Board} {S : List Nat} {l : Nat} (hl : Lft B S) (hn : l < nB B) : overL B S l ≠ [] ↔ cf B S l := by
  have n1 : nB B = hB B + wB B := rfl
  constructor
  · intro h
    obtain ⟨o, ho⟩ := List.exists_mem_of_ne_nil _ h
    obtain ⟨h1, h2⟩ := List.mem_filter.mp ho
    rw [gtB_iff] at h2
    unfold sideL at h1
    refine ⟨o, ?_, ?_, fun e => ?_, h2⟩
    · split at h1
      · have := (mem_rowsL.mp h1).1; omega
      · exact (mem_colsL.mp h1).1.2
    · split at h1
      · exact (mem_rowsL.mp h1).2
      · exact (mem_colsL.mp h1).2
    · rw [e] at h2
      exact gt_irrefl hl h2
  · rintro ⟨o, h1, h2, h3, h4⟩ e
    have : o ∈ overL B S l := by
      refine List.mem_filter.mpr ⟨?_, gtB_iff.mpr h4⟩
      unfold sideL
      split
      · rename_i q
        exact mem_rowsL.mpr ⟨h4.1.mp q, h2⟩
      · rename_i q
        exact mem_colsL.mpr ⟨⟨by have := h4.1; omega, h1⟩, h2⟩
    rw [e] at this
    simp at this
/-- `_law_ready` -/
noncomputable def readyL (B : Board) (S : List Nat) : List Nat := (rowsL B S ++ colsL B S).filter fun l => cfB B S l
theorem mem_readyL {B : Board} {S : List Nat} {l : Nat} : l ∈ readyL B S ↔ (l < nB B ∧ l ∉ S) ∧ cf B S l := by
  unfold readyL
  rw [List.mem_filter, left_all, cfB_iff]
/-! ### all lots, by how many strikes -/
/-- the lots that so many strikes strike -/
def ComesIn (B : Board) (k : Nat) (S : List Nat) : Prop := ∃ s, Strk B s S ∧ s.length = k
theorem comesIn_zero {B : Board} {S : List Nat} : ComesIn B 0 S ↔ S = [] := by
  constructor
  · rintro ⟨s, h, e⟩
    have := List.length_eq_zero_iff.mp e
    subst this
    exact h.fn .nil
  · rintro rfl
    exact ⟨[], .nil, rfl⟩
theorem comesIn_succ {B : Board} {k : Nat} {S : List Nat} : ComesIn B (k + 1) S ↔ ∃ T l, ComesIn B k T ∧ l ∈ readyL B T ∧ S = insL l T := by
  constructor
  · rintro ⟨s, h, e⟩
    rcases List.eq_nil_or_concat s with rfl | ⟨t, l, es⟩
    · simp at e
    · rw [List.concat_eq_append] at es
      obtain ⟨T, h1, h2, h3, h4, h5⟩ := h.snoc_inv es
      refine ⟨T, l, ⟨t, h1, ?_⟩, mem_readyL.mpr ⟨⟨h2, h3⟩, h4⟩, h5⟩
      rw [es, List.length_append] at e
      simpa using e
  · rintro ⟨T, l, ⟨t, h1, e⟩, h2, rfl⟩
    obtain ⟨⟨a, b⟩, c⟩ := mem_readyL.mp h2
    exact ⟨t ++ [l], .snoc h1 a b c, by rw [List.length_append, e]; rfl⟩
theorem ComesIn.comes {B : Board} {k : Nat} {S : List Nat} (h : ComesIn B k S) : Comes B S := ⟨h.choose, h.choose_spec.1⟩
theorem Comes.in {B : Board} {S : List Nat} (h : Comes B S) : ComesIn B S.length S := ⟨h.choose, h.choose_spec, h.choose_spec.len⟩
theorem ComesIn.len {B : Board} {k : Nat} {S : List Nat} (h : ComesIn B k S) : S.length = k := by
  obtain ⟨s, h1, e⟩ := h
  rw [← h1.len, e]
theorem ComesIn.bound {B : Board} {k : Nat} {S : List Nat} (h : ComesIn B k S) : k ≤ nB B := by
  have := h.len
  obtain ⟨s, h1, _⟩ := h
  have := h1.bound
  omega
/-- none of so many: none of more -/
theorem none_later {B : Board} {k : Nat} (h : ∀ S, ¬ ComesIn B k S) : ∀ j S, k ≤ j → ¬ ComesIn B j S := by
  intro j
  induction j with
  | zero =>
    intro S hj z
    have : k = 0 := by omega
    subst this
    exact h S z
  | succ j ih =>
    intro S hj z
    by_cases e : k = j + 1
    · subst e
      exact h S z
    · obtain ⟨T, l, h1, _⟩ := comesIn_succ.mp z
      exact ih T (by omega) h1
/-! ### how many lots there are -/
def subs : Nat → List (List Nat)
  | 0 => [[]]
  | n + 1 => subs n ++ (subs n).map fun T => T ++ [n]
theorem subs_len : ∀ n, (subs n).length = 2 ^ n
  | 0 => rfl
  | n + 1 => by
    unfold subs
    rw [List.length_append, List.length_map, subs_len n, Nat.pow_succ]
    omega
theorem mem_subs : ∀ (n : Nat) (S : List Nat), S.Pairwise (· < ·) → (∀ x ∈ S, x < n) → S ∈ subs n := by
  intro n
  induction n with
  | zero =>
    intro S _ h
    cases S with
    | nil => simp [subs]
    | cons x r => exact absurd (h x List.mem_cons_self) (by omega)
  | succ n ih =>
    intro S up h
    have uT : (S.filter fun x => decide (x < n)).Pairwise (· < ·) := up.sublist List.filter_sublist
    have hT : ∀ x ∈ S.filter (fun x => decide (x < n)), x < n := fun x hx => by simpa using (List.mem_filter.mp hx).2
    have mT := ih _ uT hT
    unfold subs
    rw [List.mem_append]
    by_cases q : n ∈ S
    · refine .inr (List.mem_map.mpr ⟨_, mT, ?_⟩)
      refine sorted_eq ?_ up fun x => ?_
      · rw [List.pairwise_append]
        exact ⟨uT, by simp, fun a ha b hb => by rw [List.mem_singleton.mp hb]; exact hT a ha⟩
      · rw [List.mem_append, List.mem_filter, List.mem_singleton, decide_eq_true_iff]
        constructor
        · rintro (z | rfl)
          · exact z.1
          · exact q
        · intro z
          by_cases e : x = n
          · exact .inr e
          · have := h x z
            exact .inl ⟨z, by omega⟩
    · refine .inl ?_
      have : (S.filter fun x => decide (x < n)) = S := by
        rw [List.filter_eq_self]
        intro x hx
        have h1 := h x hx
        have : x ≠ n := fun e => q (e ▸ hx)
        simp
        omega
      rw [this] at mT
      exact mT
theorem many_le {n : Nat} {L : List (List Nat)} (nd : L.Nodup) (h : ∀ S ∈ L, S.Pairwise (· < ·) ∧ ∀ x ∈ S, x < n) : L.length ≤ 2 ^ n := by
  have := List.Nodup.length_le_of_subset (l₂ := subs n) nd fun S hS => mem_subs n S (h S hS).1 (h S hS).2
  rw [subs_len] at this
  exact this
end K1
/-! Rules that the layer lacks: enumerate(tuple), sum(tuple), max of nested data, a dict display with one tuple key, != of a dict with tuple keys and the empty one. -/
namespace K1
open PySem PySem.Spec PyProof.Rows L2
/-! ### enumerate(tuple) -/
/-- the two objects that it lays: the tuple's iterator, the enumeration -/
def tItO (L : Addr) : Obj := { cls := .type "tuple_iterator", data := .fields #[.ref L, .int 0 0] }
def enO (n : Addr) : Obj :=
  { cls := .type "enumerate"
    data := .fields #[.none, .bool false, .ref n, rawInt 0, .none, .none] }
open AutoSeq1 (wpAny_loadPart') in
theorem new_enumT (L : Addr) (ys : Array Value) : Meets (Builtin.«enumerate.__new__» ⟨[.type "enumerate", .ref L], []⟩) (fun _ R s => s.heap.IsTuple L ys ∧
      R (.ok (.ret (.ref (s.heap.push (tItO L)).objs.size))) { s with heap := (s.heap.push (tItO L)).push (enO s.heap.objs.size) }) := by
  refine .of_wp fun prog w A R st both => ?_
  obtain ⟨isT, fin⟩ := both
  obtain ⟨hp, gs, dr, tk, os⟩ := st
  have sub := sub_enumerate
  replace isT : Heap.IsTuple (Shared.heap ⟨hp, gs, dr, tk, os⟩) L ys := isT
  wp_walk
  refine wpAny_stack_any fun _ => ?_
  refine wpAny_pure ?_
  split
  · rename_i c _ _ _ _ _
    generalize (c == Value.type "enumerate") = same
    cases same <;> (wp_walk using wpAny_pyIter_tuple isT; exact ⟨_, rfl, fin⟩)
  · wp_walk using wpAny_pyIter_tuple isT
    exact ⟨_, rfl, fin⟩
theorem made_enumT {prog : Program} {w : World} {A : Around} {s : Shared} {E Q : Value → Shared → Prop} {L : Addr} {ys : Array Value} (isT : s.heap.IsTuple L ys)
    (k : ∀ h2, IsEnum h2 (s.heap.objs.size + 1) s.heap.objs.size 0 .none → h2.IsTupleIter s.heap.objs.size L 0 → (∀ b ob, s.heap.get? b = some ob → h2.get? b = some ob) → Q (.ref (s.heap.objs.size + 1)) { s with heap := h2 }) :
    wpAny (model prog w) A (call (.type "enumerate") [.ref L]) Q E s := by
  have size1 : (s.heap.push (tItO L)).objs.size = s.heap.objs.size + 1 := Heap.size_push ..
  have en0 : IsEnum ((s.heap.push (tItO L)).push (enO s.heap.objs.size)) (s.heap.push (tItO L)).objs.size s.heap.objs.size 0 .none := Heap.get?_push_size _ rfl
  have ti0 : ((s.heap.push (tItO L)).push (enO s.heap.objs.size)).IsTupleIter s.heap.objs.size L 0 :=
    ⟨_, Heap.get?_push_of_some _ (Heap.get?_push_size _ rfl), rfl, rfl⟩
  refine callType_new F.called_enumerate (by decide) (F.typeCall_enumerate_1 _)
    (F.newCall_enumerate_1 _) (fun ob => F.args_object_init_2 ob _)
    F.entry_enumerate_new (new_enumT L ys) ⟨isT, ?_⟩
  rw [size1] at en0
  show _ ∧ _
  rw [size1]
  exact ⟨⟨_, en0, rfl⟩, k _ en0 ti0 fun b ob z => Heap.get?_push_of_some _ (Heap.get?_push_of_some _ z)⟩
/-- the tuple at L as it stands, each item in a new pair -/
def IteT (K : PySem.W.Frag) (L : Addr) : It where
  go i H := ∃ (xs : List V) (x : V), SqT K H L xs ∧ xs[i]? = some x
  yld i H v H' := ∃ T x, v = .ref T ∧ H T = none ∧ H' = upd H T (.tup [.int (i : Nat), x]) ∧ ∀ xs, SqT K H L xs → xs[i]? = some x
  stop i H := ∃ xs : List V, SqT K H L xs ∧ xs.length = i
/-- the enumeration at e over the iterator at it, i items in -/
structure EnT (L e it : Addr) (i : Nat) (h : Heap) : Prop where
  en : ∃ last, IsEnum h e it (i : Int) last
  ti : h.IsTupleIter it L i
  n1 : e ≠ it
  n2 : L ≠ it
  n3 : L ≠ e
theorem turn_enumT {P : Program} {w : World} {K : PySem.W.Frag} {elts : List Expr} {n : Nat} {tp : Pos} (L e it : Addr) : Turn P w K (.Tuple elts n tp) (IteT K L) [e, it] e (EnT L e it) where
  mem := List.mem_cons_self
  obj := fun i h st b hb => by
    obtain ⟨last, hE⟩ := st.en
    obtain ⟨ob, g1, _, g2⟩ := st.ti
    rcases List.mem_cons.mp hb with rfl | hb2
    · exact ⟨_, hE, fun v z => by cases z⟩
    · obtain rfl := List.mem_singleton.mp hb2
      exact ⟨ob, g1, fun v z => by rw [g2] at z; cases z⟩
  keep := fun i h h2 st k => by
    obtain ⟨last, hE⟩ := st.en
    exact ⟨⟨last, k e List.mem_cons_self _ hE⟩, st.ti.at fun ob z => k it (List.mem_cons_of_mem _ List.mem_cons_self) ob z, st.n1, st.n2, st.n3⟩
  item := by
    intro X eP ew eK calm i pins s σ H E I own st ⟨xs, x, hq, hx⟩
    subst eP ew eK
    obtain ⟨us, rel, isT, _⟩ := I.tuple hq
    obtain ⟨u, at0, ru⟩ := rel.get hx
    obtain ⟨last, hE⟩ := st.en
    have le : e < s.heap.objs.size := Heap.lt_size hE
    have li : it < s.heap.objs.size := by
      obtain ⟨_, g, _⟩ := st.ti
      exact Heap.lt_size g
    have at1 : us.toArray[i]? = some u := by simpa using at0
    have lt1 : i < us.toArray.size := (Array.getElem?_eq_some_iff.mp at1).1
    have drw := PySem.Draws.tuple (prog := X.prog) (w := X.w) (A := X.A.in1) (I.ok.hd calm) it L st.n2 us.toArray
    have notin : ∀ {c : Addr}, c ∉ [e, it] → c ≠ e ∧ c ≠ it := fun {c} z => ⟨fun q => z (by rw [q]; exact List.mem_cons_self), fun q => z (by rw [q]; exact List.mem_cons_of_mem _ List.mem_cons_self)⟩
    refine wpAny_pyNext_enum_itemD drw hE ⟨st.ti, show s.heap.IsTuple L us.toArray from isT⟩ lt1 st.n1 (by simp; exact ⟨st.n1, Ne.symm st.n3⟩) fun y h1 tk hy out st1 lay _ old => ?_
    have ey : u = y := Option.some.inj (at1.symm.trans hy)
    subst ey
    refine ⟨_, rfl, wpAny_letOwnedTupleGo_enum (s := ⟨h1, s.gens, s.drawn, tk + 1, s.os⟩) out fun h2 en2 but => ?_⟩
    have keep2 : ∀ b ob, b ∉ [e, it] → s.heap.get? b = some ob → h2.get? b = some ob := fun b ob hb z => by
      rw [but.2 b (notin hb).1]
      exact old b ob (notin hb).1 (notin hb).2 z
    have lay2 := (but.2 _ (Nat.ne_of_gt le)).trans lay
    have pair : ObjOk X.prog X.w (upd H s.heap.objs.size (.tup [.int (i : Nat), x])) h2
        s.heap.objs.size (.tup [.int (i : Nat), x]) := by
      refine ⟨by show 2 ≤ sizeLine; decide, [.int i tk, u], ?_, _, lay2, rfl, _, rfl⟩
      exact .cons ⟨_, rfl⟩ (.cons ru .nil)
    have I2 := I.turnedNew (ch := [e, it]) (t' := tk + 1) keep2 own (Nat.le_refl _) pair
    refine ⟨.ref s.heap.objs.size, _, I2, rfl, ⟨_, x, rfl, I.hok.fresh (Nat.le_refl _), rfl, fun zs hz => ?_⟩, ?_, fun b hb => ?_⟩
    · rw [I.tuple_inj hz hq]
      exact hx
    · refine ⟨⟨u, ?_⟩, st1.1.at fun ob z => (but.2 it st.n1.symm).trans z, st.n1, st.n2, st.n3⟩
      have ei : ((i + 1 : Nat) : Int) = (i : Int) + 1 := Int.natCast_succ i
      rw [ei]
      exact en2
    · have lb : b ≠ s.heap.objs.size := by
        rcases List.mem_cons.mp hb with rfl | hb2
        · exact Nat.ne_of_lt le
        · rw [List.mem_singleton.mp hb2]
          exact Nat.ne_of_lt li
      rw [upd_ne lb]
      exact (own b hb).1
  done := by
    intro X eP ew eK calm i pins s σ H E I own st ⟨xs, hq, hn⟩
    subst eP ew eK
    obtain ⟨us, rel, isT, _⟩ := I.tuple hq
    obtain ⟨last, hE⟩ := st.en
    have len := rel.length
    have drw := PySem.Draws.tuple (prog := X.prog) (w := X.w) (A := X.A.in1) (I.ok.hd calm) it L st.n2 us.toArray
    have ei : us.toArray.size = i := by rw [List.size_toArray, ← len, hn]
    have isT2 : s.heap.IsTuple L us.toArray := isT
    refine wpAny_pyNext_enum_endD drw hE (by rw [ei]; exact ⟨st.ti, isT2⟩) fun h2 ext => ⟨rfl, ?_⟩
    obtain ⟨o1, o2, o3, o4, o5, o6⟩ := own it (List.mem_cons_of_mem _ List.mem_cons_self)
    exact I.turned (t' := s.toks) (fun b ob hb z => ext b ob hb z) o1 o2 o4 o5 o6
  self := fun A i s Q E st q => by
    obtain ⟨last, hE⟩ := st.en
    exact wpAny_pyIter_enum hE q
def iEnumT (K : PySem.W.Frag) (ta : TA) : TI := fun σ H R => ta σ H fun vs H1 => ∃ a xs, vs = [.ref a] ∧ SqT K H1 a xs ∧ R (IteT K a) H1
theorem pi_enumT {X : Cx} {e : Expr} {ta : TA} {p pos tpos : Pos} {elts : List Expr} {n : Nat} (hg : Gl X "enumerate") (hm : X.mg "enumerate" = none) (ha : PA X [e] ta) (one : starEach [e] X.env = [(false, eval e X.env)] := by rfl) :
    PI X (.Tuple elts n tpos) (.Call (.Name "enumerate" p) [e] [] pos) (iEnumT X.K ta) := by
  constructor
  intro pins s σ H R I h
  refine Call_ (ld_blt I hg hm boot_enumerate ?_)
  refine PyProof.Rows.callWith_type1 (thn (ha.run pos pins s σ H _ I h) ?_) one rfl
  rintro us s1 ⟨vs, H1, I1, r1, L, xs, rfl, hq, q⟩
  obtain ⟨u, rfl, ru⟩ := r1.one
  obtain rfl : u = Value.ref L := ru
  obtain ⟨its, _, isT, _⟩ := I1.tuple hq
  have lL : L < s1.heap.objs.size := isT.lt
  refine made_enumT (show s1.heap.IsTuple L its.toArray from isT) fun h2 en ti old => wpAny_pyIter_enum en ?_
  refine ⟨s1.heap.objs.size + 1, [s1.heap.objs.size + 1, s1.heap.objs.size], _, _, H1, rfl, I1.kept (t' := s1.toks) old,
    turn_enumT L (s1.heap.objs.size + 1) s1.heap.objs.size, ⟨⟨.none, en⟩, ti, Nat.succ_ne_self _, Nat.ne_of_lt lL, Nat.ne_of_lt (Nat.lt_succ_of_lt lL)⟩, fun b hb => ?_, q⟩
  have ge : s1.heap.objs.size ≤ b := by
    rcases List.mem_cons.mp hb with rfl | hb2
    · exact Nat.le_succ _
    · exact Nat.le_of_eq (List.mem_singleton.mp hb2).symm
  exact I1.fpOk ge (I1.hok.fresh ge)
theorem walk_enumT {K : PySem.W.Frag} {a : Addr} {xs : List V} : Walk (IteT K a) xs.length (fun H => SqT K H a xs) (YPair (fun i => some (.int (i : Nat))) (fun i => xs[i]?)) where
  goes := fun i H lt q => ⟨xs, xs[i], q, List.getElem?_eq_getElem lt⟩
  stops := fun H q => ⟨xs, q, rfl⟩
  yields := by
    rintro i H v H2 _ q ⟨T, x, e1, e2, e3, e4⟩
    exact ⟨T, _, x, e1, e2, e3, rfl, e4 xs q⟩
theorem walk_zipT {K : PySem.W.Frag} {a b : Addr} {xs ys : List V} {n : Nat} (hn : n = min xs.length ys.length) : Walk (RZ.ItzT K a b) n (fun H => SqT K H a xs ∧ SqT K H b ys) (YPair (fun i => xs[i]?) (fun i => ys[i]?)) where
  goes := fun i H lt q => ⟨xs, ys, xs[i]'(by omega), ys[i]'(by omega), q.1, q.2, List.getElem?_eq_getElem (by omega), List.getElem?_eq_getElem (by omega)⟩
  stops := fun H q => ⟨xs, ys, q.1, q.2, by omega⟩
  yields := by
    rintro i H v H2 _ q ⟨T, x, y, e1, e2, e3, e4, e5⟩
    exact ⟨T, x, y, e1, e2, e3, e4 xs q.1, e5 ys q.2⟩
/-! ### sum(tuple) -/
section
variable {X : Cx}
def rSumT (K : PySem.W.Frag) : List V → Hp → VK → Prop := fun vs H Q => ∃ (a : Addr) (ns : List Int), vs = [V.ref a] ∧ SqT K H a (ns.map V.int) ∧ Q (.int ns.sum) H
theorem cr_sumT (hc : X.calm = true) : CallR X (.builtin "sum") (rSumT X.K) := by
  rintro pins s σ H vs us Q I r ⟨a, ns, rfl, isT, q⟩
  obtain ⟨its, rv, lay, _⟩ := I.tuple isT
  rw [Vals.ref1 r]
  have ii := rv.ints
  obtain ⟨zs, ez⟩ := ii.allInts.items
  have lay2 : s.heap.IsTuple a (intItems zs) := by
    rw [← ez]
    exact lay
  have sums : zs.toList.map (·.1) = ns := by
    rw [← nums_intItems, ← ez]
    exact ii.numsOf
  refine PySem.W.ktm_sumG (I.ok.hd hc) lay2 fun h2 tk t2 old => ⟨.int _, H, I.kept old, ⟨_, rfl⟩, ?_⟩
  have e : zs.toList.map (·.1) = ns := sums
  rw [preSum_eq, List.take_of_length_le (by rw [List.length_map]; simp), e]
  exact q
/-! ### max of a list of alike data -/
/-- the first place of the greatest -/
def rMaxD (K : PySem.W.Frag) : List V → Hp → VK → Prop := fun vs H Q => ∃ (a : Addr) (xs : List V) (d : PyData) (ds : List PyData), vs = [V.ref a] ∧ SqL K H a xs ∧ DpAll K H xs (d :: ds) ∧ PySem.W.AlikeAll (d :: ds) ∧ PyData.depthAll (d :: ds) ≤ 16 ∧
  ∀ (i : Nat) (x : V), i = argBest (fun i j => PySem.W.dataLt ((d :: ds).getD j .none) ((d :: ds).getD i .none)) ds.length → xs[i]? = some x → Q x H
theorem vals_back {xs : List V} {us : List Value} (r : Vals xs us) : ∀ {i : Nat} {u : Value}, us[i]? = some u → ∃ x, xs[i]? = some x ∧ RelV x u := by
  induction r with
  | nil => intro i u e; simp at e
  | cons r0 _ ih =>
    intro i u e
    cases i with
    | zero =>
      obtain rfl := Option.some.inj e
      exact ⟨_, rfl, r0⟩
    | succ n => exact ih e
theorem cr_maxD (hc : X.calm = true) (hu : X.A.units + 64 < cLine) : CallR X (.builtin "max") (rMaxD X.K) := by
  rintro pins s σ H vs us Q I r ⟨a, xs, d, ds, rfl, isL, dp, al, dep, q⟩
  obtain ⟨its, rv, lay, _⟩ := I.list isL
  rw [Vals.ref1 r]
  obtain ⟨as, rd⟩ := Dp.readsAll I (d :: ds) xs its dp rv
  have rd2 : ReadsAll s.heap its.toArray.toList (d :: ds) as := rd
  have size : its.toArray.size = ds.length + 1 := PySem.W.readsAll_len rd2
  refine PySem.call_max_walkH (PySem.W.iter_listW (A := X.A.in1) (I.ok.hd hc) lay.isList ?_)
  intro s2 e W st fp wr old
  have cmp := PySem.W.cmpIn_gt (prog := X.prog) (w := X.w) (A := X.A.in1) rd2 al (by show X.A.units + 1 + _ < _; omega)
  refine ⟨_, _, _, _, _, _, _, s.heap, _, rfl, W, st, fp, by omega, wr, old, cmp, fun v s3 hP mv => ?_⟩
  obtain ⟨h3, tk, rfl, old3⟩ := PySem.W.moved_old e rfl mv
  rw [show its.toArray.size - 1 = ds.length by omega] at hP
  obtain ⟨x, hx, rx⟩ := vals_back rv (show its[_]? = some v by simpa using hP)
  exact ⟨x, H, I.kept old3, rx, q _ x rfl hx⟩
/-! ### {k: v}, the key a tuple -/
def tDisp1 (tk tv : TE) : TE := fun σ H Q => ∀ p, H p = none → tk σ (upd H p (.dT [])) fun x H1 => tv σ H1 fun y H2 => ∃ (b : Addr) (k : List Key), x = .ref b ∧ H2 b = some (.tup (k.map kV)) ∧ H2 p = some (.dT []) ∧ Q (.ref p) (upd H2 p (.dT [(k, y)]))
theorem pe_disp1T {k v : Expr} {tk tv : TE} {pos : Pos} (hu : X.A.units + 1 < cLine) (hk : PE X k tk) (hv : PE X v tv) : PE X (.Dict [some k] [v] pos) (tDisp1 tk tv) := by
  refine ⟨fun pins s σ H Q I q => ?_⟩
  have hn := I.hok.fresh (Nat.le_refl s.heap.objs.size)
  have I1 := I.laid (a := s.heap.objs.size) (o := .dT []) (h' := s.heap.push { cls := .type "dict", data := .dict #[] }) (t' := s.toks) (fun _ _ q => Heap.get?_push_of_some _ q) (Nat.le_refl _) (dt_empty s.heap I.big)
  refine wpAny_Dict_any rfl rfl (by simp) (show 1 ≤ 15 by decide) (pairTrees_cons_walk (thn (hk.run pins _ σ _ _ I1 (q _ hn)) fun u s2 ⟨x, H2, I2, rx, q2⟩ => thn (hv.run pins s2 σ H2 _ I2 q2) fun w2 s3 ⟨y, H3, I3, ry, q3⟩ => pairTrees_nil_walk ?_))
  obtain ⟨b, ks, ex, eb, ep, qq⟩ := q3
  subst ex
  cases (show u = Value.ref b from rx)
  obtain ⟨z, hd, xs, rel, dd⟩ := dt_of I3.hok ep
  have e0 : xs = [] := by cases rel; rfl
  subst e0
  unfold storeAll
  rw [List.forIn_cons]
  refine wpAny_bind (wpAny_bind (wpAny_dictSet_heap (hsz := Nat.zero_le _) (show (tupleKind (mixKind X.prog X.w)).room X.A from Nat.lt_of_succ_lt hu) (key_of I3.hok eb) dd fun h' dd' hs => wpAny_pure ?_))
  show wpAny _ _ (forIn ([] : List (Value × Value)) PUnit.unit _) _ _ _
  rw [List.forIn_nil]
  refine wpAny_pure ?_
  obtain ⟨o, es, ep', ho, h2, h3, h4, _, h5⟩ := dd'
  have ne : b ≠ s.heap.objs.size := ne_of eb ep (fun z => nomatch z)
  refine ⟨.ref s.heap.objs.size, _, d_write (ob := .dT [(ks, y)]) I3 (by rw [ep]; exact True.intro) hs ⟨o, ho⟩ ⟨by show 1 ≤ sizeLine; decide, hd, _, ?_, o, es, ep', ho, h2, h3, h4, h5⟩, rfl, qq⟩
  have r2 : KT (upd H3 s.heap.objs.size (.dT [(ks, y)])) [(ks, y)] [(ks, b, w2)] := .cons ⟨rfl, by rw [upd_ne ne]; exact eb, ry⟩ .nil
  exact r2
/-! ### a dict with tuple keys, != the empty one -/
def rNeDT : R2 := fun x y H Q => ∃ a b kvs, x = .ref a ∧ y = .ref b ∧ H a = some (.dT kvs) ∧ H b = some (.dT []) ∧ Q (.bl (!kvs.isEmpty)) H
theorem samePairs_empty {prog : Program} {w : World} {A : Around} {s : Shared} {E : Value → Shared → Prop} {Q : Bool → Shared → Prop} {nm : String} {a b : Addr} {oa ob : Obj} {es : Array DictEntry} {m n : Nat}
    (na : (a == sysModules) = false) (nb : (b == sysModules) = false) (ga : s.heap.get? a = some oa) (da : oa.data = .dict es m) (gb : s.heap.get? b = some ob) (db : ob.data = .dict #[] n)
    (q : Q (es.size == 0) s) : wpAny (model prog w) A (Builtin.Dict.samePairs nm a b) Q E s := by
  unfold Builtin.Dict.samePairs
  unfold Builtin.Dict.showsAll
  have no : ∀ {c : Addr}, (c == sysModules) = false → ¬ (c == sysModules) = true := fun h z => by rw [h] at z; cases z
  rw [if_neg (no na), if_neg (no nb)]
  refine wpAny_bind (wpAny_pure ?_)
  refine wpAny_bind (wpAny_pure ?_)
  refine wpAny_bind (wpAny_dictEntries ga da ?_)
  show wpAny _ _ (_ >>= _) _ _ _
  refine wpAny_bind (wpAny_dictEntries gb db ?_)
  rcases Nat.eq_zero_or_pos es.size with z | pos
  · rw [if_neg (by rw [z]; simp)]
    refine wpAny_bind (wpAny_dictEpoch ga da (wpAny_bind ?_))
    rw [Std.Legacy.Range.forIn_eq_forIn_range', show List.range' ([:es.size] : Std.Legacy.Range).start ([:es.size] : Std.Legacy.Range).size ([:es.size] : Std.Legacy.Range).step = [] by simp [Std.Legacy.Range.size, z]]
    refine wpAny_pure (wpAny_pure ?_)
    rw [show (es.size == 0) = true by simp [z]] at q
    exact q
  · have ne : es.size ≠ 0 := Nat.ne_of_gt pos
    rw [if_pos (by simpa using ne)]
    rw [show (es.size == 0) = false by simpa using ne] at q
    refine wpAny_bind (wpAny_rule ?_)
    exact wpAny_pure q
theorem op_neDT (hu : X.A.units < cLine) : OpR X (compareOp .NotEq) rNeDT := by
  rintro pins s σ H x y v u Q I rx ry ⟨a, b, kvs, rfl, rfl, ea, eb, q⟩
  obtain rfl : v = Value.ref a := rx
  obtain rfl : u = Value.ref b := ry
  obtain ⟨_, na, xs, rel, oa, es, _, ga, xa, da, hes, _⟩ := (show ObjOk X.prog X.w H s.heap a (.dT kvs) from I.hok a _ ea)
  obtain ⟨_, nb, zs, rel0, ob, es0, _, gb, xb, db, hes0, _⟩ := (show ObjOk X.prog X.w H s.heap b (.dT []) from I.hok b _ eb)
  obtain rfl : zs = [] := by cases rel0; rfl
  obtain rfl : es0 = #[] := Array.toList_eq_nil_iff.mp hes0
  have ta : s.TypeIs (.ref a) "dict" := ⟨oa, ga, xa.1⟩
  have tb : s.TypeIs (.ref b) "dict" := ⟨ob, gb, xb.1⟩
  have el : (es.size == 0) = kvs.isEmpty := by
    have l1 : kvs.length = xs.length := Paired.length rel
    have l2 : es.size = xs.length := by rw [← Array.length_toList, hes, List.length_map]
    rw [l2, ← l1]
    cases kvs <;> rfl
  refine wpAny_richCompare_same_room (op := .NotEq) ta tb PySem.F.slot_dict_ne ?_ hu
  refine wpAny_call_entry PySem.F.slot_dict_ne ta PySem.F.entry_dict_ne ?_ (PySem.F.args_dict_ne_2 _ _)
  refine wpAny_bind (m := Builtin.Dict.dictSlotArgs "__ne__" ⟨[.ref a, .ref b], []⟩) ?_
  unfold Builtin.Dict.dictSlotArgs
  refine wpAny_bind (wpAny_notOrdered_dict ta (wpAny_pure ?_))
  refine wpAny_bind (wpAny_isInstance (T := "dict") tb PySem.F.sub_dict_dict ?_)
  rw [show (!true) = false from rfl, if_neg Bool.false_ne_true]
  refine wpAny_bind (wpAny_pure ?_)
  refine wpAny_bind (wpAny_pure ?_)
  refine wpAny_bind (samePairs_empty na nb ga da gb db (wpAny_pure ⟨_, rfl, (fun z => nomatch z), ?_⟩))
  refine ⟨.bl (!kvs.isEmpty), H, I, ?_, q⟩
  rw [el]
  show _ = Value.bool _
  cases kvs.isEmpty <;> rfl
end
end K1
/-! The layer's rules whose readings bear the context's K, with K by name (a comprehension's block has the same K, but says so only by reduction). -/
namespace K1
open PySem PySem.Spec PyProof.Rows L2
section
variable {X : Cx} {K : PySem.W.Frag}
def rLenS (K : PySem.W.Frag) : List V → Hp → VK → Prop := fun vs H Q => ∃ a zs, vs = [.ref a] ∧ (SqL K H a zs ∨ SqT K H a zs) ∧ Q (.int zs.length) H
theorem kc_len (hK : X.K = K := by rfl) : CallR X (.builtin "len") (rLenS K) := by subst hK; exact call_len_seq
theorem kc_isi (hK : X.K = K := by rfl) : CallR X (.builtin "isinstance") (rIsi K) := by subst hK; exact call_isi
theorem kc_isiT (hK : X.K = K := by rfl) : CallR X (.builtin "isinstance") (rIsiT K) := by subst hK; exact call_isiT
theorem kc_all (hc : X.calm = true) (hK : X.K = K := by rfl) : CallR X (.builtin "all") (rAll K) := by subst hK; exact cr_all hc
theorem kc_any (hc : X.calm = true) (hK : X.K = K := by rfl) : CallR X (.builtin "any") (rAny K) := by subst hK; exact cr_any hc
theorem kc_sumT (hc : X.calm = true) (hK : X.K = K := by rfl) : CallR X (.builtin "sum") (rSumT K) := by subst hK; exact cr_sumT hc
theorem kc_maxD (hc : X.calm = true) (hu : X.A.units + 64 < cLine) (hK : X.K = K := by rfl) : CallR X (.builtin "max") (rMaxD K) := by subst hK; exact cr_maxD hc hu
theorem kc_sorted (hK : X.K = K := by rfl) : CallR X (.builtin "sorted") (rSorted K) := by subst hK; exact cr_sorted
def rTupOf (K : PySem.W.Frag) : List V → Hp → VK → Prop := fun xs H Q => ∃ p ys, xs = [.ref p] ∧ ((SqL K H p ys ∧ ∀ l, H l = none → Q (.ref l) (upd H l (.tup ys))) ∨ (SqT K H p ys ∧ Q (.ref p) H))
theorem kc_tuple (hK : X.K = K := by rfl) : CallR X (.type "tuple") (rTupOf K) := by subst hK; exact call_tuple_of
def rLstOf (K : PySem.W.Frag) : List V → Hp → VK → Prop := fun xs H Q => ∃ p ys, xs = [.ref p] ∧ (SqL K H p ys ∨ SqT K H p ys) ∧ ∀ l, H l = none → Q (.ref l) (upd H l (.lst ys))
theorem kc_list (hK : X.K = K := by rfl) : CallR X (.type "list") (rLstOf K) := by subst hK; exact call_list_of
theorem k_in (hK : X.K = K := by rfl) : OpR X (compareOp .In) (rIn K false) := by subst hK; exact op_in_seq
theorem k_notIn (hK : X.K = K := by rfl) : OpR X (compareOp .NotIn) (rIn K true) := by subst hK; exact op_notIn_seq
theorem k_eqD (hu : X.A.units + 64 < cLine) (hK : X.K = K := by rfl) : OpR X (compareOp .Eq) (rEqD K) := by subst hK; exact op_eqD hu
theorem k_neD (hu : X.A.units + 64 < cLine) (hK : X.K = K := by rfl) : OpR X (compareOp .NotEq) (rNeD K) := by subst hK; exact op_neD hu
theorem k_catA (hK : X.K = K := by rfl) : OpR X (binaryOp .Add) (rCatA K) := by subst hK; exact op_catA
theorem k_ixT (hK : X.K = K := by rfl) : IxR X (rIxT K) := by subst hK; exact ix_tup
theorem k_ixL (hK : X.K = K := by rfl) : IxR X (rIxL K) := by subst hK; exact ix_list
theorem k_slA (hK : X.K = K := by rfl) : SlR X (rSlA K) := by subst hK; exact sl_tupA
theorem k_star {e : Expr} {es : List Expr} {te : TE} {t : TA} {p : Pos} (he : PE X e te) (hr : PA X es t) (hs : starEach (.Starred e p :: es) X.env = (true, eval e X.env) :: starEach es X.env := by rfl) (hK : X.K = K := by rfl) : PA X (.Starred e p :: es) (StX.tStar K te t) := by
  subst hK; exact StX.pa_star he hr hs
theorem k_piT {tg l : Expr} {tl : TE} (hl : PE X l tl) (hK : X.K = K := by rfl) : PI X tg l (iTup K tl) := by subst hK; exact pi_tup hl
theorem k_piL {tg l : Expr} {tl : TE} (hl : PE X l tl) (hK : X.K = K := by rfl) : PI X tg l (iList K tl) := by subst hK; exact pi_list hl
theorem k_piZ {e e2 : Expr} {ta : TA} {p pos tpos : Pos} {elts : List Expr} {kk : Nat} (hg : Gl X "zip") (hm : X.mg "zip" = none) (ha : PA X [e, e2] ta)
    (hs : starEach [e, e2] X.env = (false, eval e X.env) :: starEach [e2] X.env := by rfl) (hpl : (backTo pos (starEach [e2] X.env)).any (·.1) = false := by rfl) (hK : X.K = K := by rfl) :
    PI X (.Tuple elts kk tpos) (.Call (.Name "zip" p) [e, e2] [] pos) (RZ.iZipA K ta) := by subst hK; exact RZ.pi_zipA hg hm ha hs hpl
theorem k_piE {e : Expr} {ta : TA} {p pos tpos : Pos} {elts : List Expr} {kk : Nat} (hg : Gl X "enumerate") (hm : X.mg "enumerate" = none) (ha : PA X [e] ta) (hs : starEach [e] X.env = [(false, eval e X.env)] := by rfl) (hK : X.K = K := by rfl) :
    PI X (.Tuple elts kk tpos) (.Call (.Name "enumerate" p) [e] [] pos) (iEnumT K ta) := by subst hK; exact pi_enumT hg hm ha hs
theorem k_tup {es : List Expr} {k : Nat} {t : TGs} {n : Nat} {pos : Pos} (hc : X.calm = true) (h : PGs X es t)
    (hn : (assignEach es X.env).length = n := by rfl) (hst : (assignEach es X.env).findIdx? (·.1) = none := by rfl) (hK : X.K = K := by rfl) : PG X (.Tuple es k pos) (gTup K n t) := by subst hK; exact pg_tup hc h hn hst
end
end K1
/-! What stands in the heap, and comprehensions in one lemma. -/
namespace K1
open PySem PySem.Spec PyProof.Rows L2
/-! ### values -/
abbrev nV (n : Nat) : V := .int (n : Int)
theorem nV_inj {a b : Nat} (h : nV a = nV b) : a = b := by
  have := V.int.inj h
  omega
theorem nVs_inj : ∀ {a b : List Nat}, a.map nV = b.map nV → a = b
  | [], [], _ => rfl
  | [], _ :: _, h => nomatch h
  | _ :: _, [], h => nomatch h
  | x :: a, y :: b, h => by
    rw [List.map_cons] at h
    rw [List.map_cons] at h
    injection h with h1 h2
    rw [nV_inj h1, nVs_inj h2]
def keyOf (S : List Nat) : List Key := S.map fun n : Nat => Sum.inl (n : Int)
theorem keyOf_kV (S : List Nat) : (keyOf S).map kV = S.map nV := by
  unfold keyOf
  rw [List.map_map]
  rfl
theorem keyOf_inj {a b : List Nat} (h : keyOf a = keyOf b) : a = b := by
  refine nVs_inj ?_
  rw [← keyOf_kV, ← keyOf_kV, h]
theorem flat_nVs (S : List Nat) : (S.map nV).all flatV = true := by
  rw [List.all_map]
  exact List.all_eq_true.mpr (fun _ _ => rfl)
theorem inV_nV (l : Nat) (S : List Nat) : inV (nV l) (S.map nV) = decide (l ∈ S) := by
  unfold inV
  rw [List.any_map, Bool.eq_iff_iff, List.any_eq_true, decide_eq_true_iff]
  constructor
  · rintro ⟨x, hx, e⟩
    have e' : ((x : Int) == (l : Int)) = true := e
    have : x = l := by
      have := of_decide_eq_true (by simpa using e' : decide ((x : Int) = (l : Int)) = true)
      omega
    rw [← this]; exact hx
  · intro h
    exact ⟨l, h, show ((l : Int) == (l : Int)) = true by simp⟩
theorem get_nV {S : List Nat} {i : Nat} {x : V} (h : (S.map nV)[i]? = some x) : ∃ n, S[i]? = some n ∧ x = nV n := by
  rw [List.getElem?_map] at h
  cases e : S[i]? with
  | none => rw [e] at h; cases h
  | some n => rw [e] at h; exact ⟨n, rfl, (Option.some.inj h).symm⟩
theorem len_small {n : Nat} (h : n ≤ 1000) : n ≤ sizeLine := Nat.le_of_lt (small1000 h)
/-! ### heaps -/
/-- the tuples stay -/
def Tups (H H' : Hp) : Prop := ∀ b xs, H b = some (.tup xs) → H' b = some (.tup xs)
theorem _root_.L2.Same.tups {H H' : Hp} (h : Same H H') : Tups H H' := fun b xs e => h b _ e
theorem Tups.trans {H H1 H2 : Hp} (a : Tups H H1) (b : Tups H1 H2) : Tups H H2 := fun c xs e => b c xs (a c xs e)
theorem tups_lst {H : Hp} {D : Addr} {xs : List V} {o : HO} (h : H D = some (.lst xs)) : Tups H (upd H D o) := fun b ys e => by
  rw [upd_ne (ne_of e h (fun z => nomatch z))]; exact e
theorem same_new {H : Hp} {p : Addr} {o : HO} (n : H p = none) : Same H (upd H p o) := fun b x e => by
  rw [upd_ne (ne_of_none e n)]; exact e
theorem same_upd {H H' : Hp} {p : Addr} {o : HO} (s : Same H H') (n : H p = none) : Same H (upd H' p o) := fun b x e => by
  rw [upd_ne (ne_of_none e n)]; exact s b x e
/-- all but r stays -/
def SB (r : Addr) (H H' : Hp) : Prop := ∀ b o, b ≠ r → H b = some o → H' b = some o
theorem SB.refl (r : Addr) (H : Hp) : SB r H H := fun _ _ _ e => e
theorem SB.trans {r : Addr} {H H1 H2 : Hp} (a : SB r H H1) (b : SB r H1 H2) : SB r H H2 := fun c o n e => b c o n (a c o n e)
theorem SB.of {r : Addr} {H H' : Hp} (s : Same H H') : SB r H H' := fun b o _ e => s b o e
theorem SB.upd (r : Addr) (H : Hp) (o : HO) : SB r H (upd H r o) := fun b x n e => by rw [upd_ne n]; exact e
/-- the row of draws: the script, three numbers -/
def RowOk (K : PySem.W.Frag) (H : Hp) (r : Addr) : Prop :=
  ∃ (sc : Addr) (ns : List Int) (i j k : Int), 0 ≤ i ∧ H r = some (.lst [.ref sc, .int i, .int j, .int k]) ∧ ∀ H', SB r H H' → SqL K H' sc (ns.map V.int)
theorem RowOk.same {K : PySem.W.Frag} {H H' : Hp} {r : Addr} (h : RowOk K H r) (s : Same H H') : RowOk K H' r := by
  obtain ⟨sc, ns, i, j, k, h0, h1, h2⟩ := h
  exact ⟨sc, ns, i, j, k, h0, s _ _ h1, fun H2 t => h2 H2 ((SB.of s).trans t)⟩
theorem RowOk.lst {K : PySem.W.Frag} {H : Hp} {r : Addr} (h : RowOk K H r) : ∃ xs, H r = some (.lst xs) := by
  obtain ⟨sc, ns, i, j, k, h0, h1, h2⟩ := h
  exact ⟨_, h1⟩
theorem SB.tups {K : PySem.W.Frag} {H H' : Hp} {r : Addr} (h : RowOk K H r) (s : SB r H H') : Tups H H' := fun b xs e => by
  obtain ⟨ys, h1⟩ := h.lst
  exact s b _ (ne_of e h1 (fun z => nomatch z)) e
/-! ### boards in the heap -/
def PlaceAt (H : Hp) (p : Int × Int) (a : Addr) : Prop := H a = some (.tup [.int p.1, .int p.2])
def RowAt (H : Hp) (r : List (Int × Int)) (a : Addr) : Prop :=
  ∃ qs : List Addr, H a = some (.tup (qs.map V.ref)) ∧ qs.length = r.length ∧ ∀ (j : Nat) (p : Int × Int), r[j]? = some p → ∃ q, qs[j]? = some q ∧ PlaceAt H p q
def BoardAt (H : Hp) (B : Board) (a : Addr) : Prop :=
  ∃ rs : List Addr, H a = some (.tup (rs.map V.ref)) ∧ rs.length = B.length ∧ ∀ (i : Nat) (r : List (Int × Int)), B[i]? = some r → ∃ q, rs[i]? = some q ∧ RowAt H r q
theorem RowAt.tups {H H' : Hp} {r : List (Int × Int)} {a : Addr} (h : RowAt H r a) (t : Tups H H') : RowAt H' r a := by
  obtain ⟨qs, h1, h2, h3⟩ := h
  refine ⟨qs, t _ _ h1, h2, fun j p e => ?_⟩
  obtain ⟨q, e1, e2⟩ := h3 j p e
  exact ⟨q, e1, t _ _ e2⟩
theorem BoardAt.tups {H H' : Hp} {B : Board} {a : Addr} (h : BoardAt H B a) (t : Tups H H') : BoardAt H' B a := by
  obtain ⟨qs, h1, h2, h3⟩ := h
  refine ⟨qs, t _ _ h1, h2, fun j p e => ?_⟩
  obtain ⟨q, e1, e2⟩ := h3 j p e
  exact ⟨q, e1, e2.tups t⟩
theorem BoardAt.same {H H' : Hp} {B : Board} {a : Addr} (h : BoardAt H B a) (t : Same H H') : BoardAt H' B a := h.tups t.tups
theorem refs_get {qs : List Addr} {i : Nat} {q : Addr} (h : qs[i]? = some q) : (qs.map V.ref)[i]? = some (.ref q) := by rw [List.getElem?_map, h]; rfl
/-- a cell of the board, by its places -/
theorem BoardAt.cell {H : Hp} {B : Board} {a : Addr} (h : BoardAt H B a) (ok : BoardOk B) {i j : Nat} (hi : i < hB B) (hj : j < wB B) :
    ∃ (rs qs : List Addr) (r q : Addr), H a = some (.tup (rs.map V.ref)) ∧ (rs.map V.ref)[i]? = some (.ref r) ∧ H r = some (.tup (qs.map V.ref)) ∧ (qs.map V.ref)[j]? = some (.ref q) ∧ H q = some (.tup [.int (cA B i j), .int (cB B i j)]) := by
  obtain ⟨rs, h1, h2, h3⟩ := h
  have e : B[i]? = some B[i] := List.getElem?_eq_getElem hi
  obtain ⟨r, e1, qs, e2, e3, e4⟩ := h3 i _ e
  have hl : B[i].length = wB B := ok.rows _ (List.getElem_mem hi)
  have f : B[i][j]? = some (B[i][j]'(by rw [hl]; exact hj)) := List.getElem?_eq_getElem _
  obtain ⟨q, f1, f2⟩ := e4 j _ f
  refine ⟨rs, qs, r, q, h1, refs_get e1, e2, refs_get f1, ?_⟩
  have g : ((B.getD i []).getD j (0, 0)) = B[i][j]'(by rw [hl]; exact hj) := by
    rw [List.getD_eq_getElem?_getD, List.getD_eq_getElem?_getD, e]
    show (B[i][j]?).getD (0, 0) = _
    rw [f]
    rfl
  unfold cA cB
  rw [g]
  exact f2
theorem BoardAt.row0 {H : Hp} {B : Board} {a : Addr} (h : BoardAt H B a) (ok : BoardOk B) :
    ∃ (rs qs : List Addr) (r : Addr), H a = some (.tup (rs.map V.ref)) ∧ rs.length = hB B ∧ (rs.map V.ref)[0]? = some (.ref r) ∧ H r = some (.tup (qs.map V.ref)) ∧ qs.length = wB B := by
  obtain ⟨rs, h1, h2, h3⟩ := h
  have hi : 0 < B.length := ok.h1
  have e : B[0]? = some B[0] := List.getElem?_eq_getElem hi
  obtain ⟨r, e1, qs, e2, e3, e4⟩ := h3 0 _ e
  exact ⟨rs, qs, r, h1, h2, refs_get e1, e2, by rw [e3]; exact ok.rows _ (List.getElem_mem hi)⟩
theorem BoardAt.len {H : Hp} {B : Board} {a : Addr} (h : BoardAt H B a) : ∃ rs : List Addr, H a = some (.tup (rs.map V.ref)) ∧ (rs.map V.ref).length = hB B := by
  obtain ⟨rs, h1, h2, h3⟩ := h
  exact ⟨rs, h1, by rw [List.length_map]; exact h2⟩
/-! ### comprehensions in one lemma -/
theorem walk_range0 {n : Nat} : Walk (Itr 0 n) (List.range n).length (fun _ => True) (YAt ((List.range n).map nV)) := by
  rw [List.length_range]
  refine (walk_range (lo := 0) (n := n)).mono (fun _ _ => trivial) fun i H x H' hi _ y => ⟨y.1, ?_⟩
  rw [y.2, List.getElem?_map, List.getElem?_range hi]
  show some (V.int (i : Int)) = some (V.int (0 + (i : Int)))
  rw [Int.zero_add]
theorem walk_rangeAt {lo n : Nat} : Walk (Itr (lo : Int) n) (List.range' lo n).length (fun _ => True) (YAt ((List.range' lo n).map nV)) := by
  rw [List.length_range']
  refine (walk_range (lo := (lo : Int)) (n := n)).mono (fun _ _ => trivial) fun i H x H' hi _ y => ⟨y.1, ?_⟩
  rw [y.2, List.getElem?_map, List.getElem?_range' hi]
  show some (V.int ((lo + 1 * i : Nat) : Int)) = some (V.int ((lo : Int) + (i : Int)))
  congr 2
  omega
theorem walk_listM {K : PySem.W.Frag} {a : Addr} {α : Type} {L : List α} {F : α → V} : Walk (Itl K a) L.length (fun H => SqL K H a (L.map F)) (YAt (L.map F)) := by
  have := walk_list (K := K) (a := a) (xs := L.map F)
  rw [List.length_map] at this
  exact this
theorem walk_tupM {K : PySem.W.Frag} {a : Addr} {α : Type} {L : List α} {F : α → V} : Walk (Itt K a) L.length (fun H => SqT K H a (L.map F)) (YAt (L.map F)) := by
  have := walk_tup (K := K) (a := a) (xs := L.map F)
  rw [List.length_map] at this
  exact this
theorem paired_snoc {α β : Type} {F : α → β → Prop} : ∀ {l : List α} {m : List β} {x : α} {y : β}, Paired F l m → F x y → Paired F (l ++ [x]) (m ++ [y])
  | _, _, _, _, .nil, h => .cons h .nil
  | _, _, _, _, .cons r t, h => .cons r (paired_snoc t h)
theorem paired_fn {α : Type} {f : α → V} : ∀ {l : List α} {m : List V}, Paired (fun x y => y = f x) l m → m = l.map f
  | _, _, .nil => rfl
  | _, _, .cons r t => by rw [r, paired_fn t]; rfl
theorem lcG {J : It} {G : Hp → Prop} {α : Type} {L : List α} {F : α → V} (w : Walk J L.length G (YAt (L.map F))) {i : Nat} {tt : TT} {te : TE} {vs : List Nat} {σ : L2.St} {H1 : Hp} {D : Addr} {Q : Hp → Prop} (nD : H1 D = none) (hlen : L.length ≤ 1000)
    (p : α → Bool) (Rel : Hp → α → V → Prop) (mono : ∀ H H' x y, Tups H H' → Rel H x y → Rel H' x y)
    (hG : ∀ H, Same H1 H → G H) (hw : ∀ v, wipe ((wipe σ vs).set i (some v)) vs = wipe σ vs)
    (ht : ∀ x ∈ L, ∀ H R, Same H1 H → (∀ H3, Same H H3 → R (p x) H3) → tt ((wipe σ vs).set i (some (F x))) H R)
    (he : ∀ x ∈ L, p x = true → ∀ H R, Same H1 H → (∀ H3 y, Same H H3 → Rel H3 x y → R y H3) → te ((wipe σ vs).set i (some (F x))) H R)
    (hq : ∀ H ys, Same H1 H → Paired (Rel H) (L.filter p) ys → H D = some (.lst ys) → Q H) :
    ∃ W : Nat → Nat → Hp → Prop, (∃ m, W 0 m (upd H1 D (.lst []))) ∧ ∀ k m H, W k m H →
      (J.stop k H ∧ Q H) ∨ (J.go k H ∧ ∃ Nx : Hp → Prop, (∀ H', Nx H' → ∃ m', m' < m ∧ W (k + 1) m' H') ∧ ∀ x H', J.yld k H x H' → gName i x (wipe σ vs) H' fun σ2 H2 => wipe σ2 vs = wipe σ vs ∧ tt σ2 H2 fun b H3 =>
        if b = true then te σ2 H3 fun y H4 => ∃ got, H4 D = some (.lst got) ∧ got.length < sizeLine ∧ Nx (upd H4 D (.lst (got ++ [y]))) else Nx H3) := by
  refine lc_it w (fun k H => Same H1 H ∧ ∃ ys, Paired (Rel H) ((L.take k).filter p) ys ∧ H D = some (.lst ys)) ⟨same_new nD, [], .nil, upd_same⟩ (fun k H _ h => hG H h.1) ?_ ?_
  · rintro k v H H' hk ⟨s, ys, hp, hD⟩ ⟨eH, hv⟩
    subst eH
    have e : L[k]? = some L[k] := List.getElem?_eq_getElem hk
    have ev : v = F L[k] := by
      rw [List.getElem?_map, e] at hv
      exact (Option.some.inj hv).symm
    subst ev
    have hx : L[k] ∈ L := List.getElem_mem hk
    have htake : L.take (k + 1) = L.take k ++ [L[k]] := by rw [List.take_add_one, e]; rfl
    refine ⟨hw _, ht _ hx H' _ s fun H3 s3 => ?_⟩
    have hp3 : Paired (Rel H3) ((L.take k).filter p) ys := Paired.mapP hp fun _ _ z => mono _ _ _ _ s3.tups z
    cases hb : p L[k] with
    | true =>
      refine iteT (he _ hx hb H3 _ (s.trans s3) fun H4 y s4 hy => ?_)
      have hD4 : H4 D = some (.lst ys) := s4 _ _ (s3 _ _ hD)
      have hl : ys.length ≤ L.length := by
        have h1 := Paired.length hp
        have h2 : ((L.take k).filter p).length ≤ (L.take k).length := List.length_filter_le _ _
        rw [List.length_take] at h2
        omega
      refine ⟨ys, hD4, small1000 (by omega), same_upd ((s.trans s3).trans s4) nD, ys ++ [y], ?_, upd_same⟩
      rw [htake, List.filter_append, List.filter_cons, hb]
      refine Paired.mapP (paired_snoc (Paired.mapP hp3 fun _ _ z => mono _ _ _ _ s4.tups z) hy) fun _ _ z => mono _ _ _ _ (tups_lst hD4) z
    | false =>
      refine iteF ⟨s.trans s3, ys, ?_, s3 _ _ hD⟩
      rw [htake, List.filter_append, List.filter_cons, hb]
      simpa using hp3
  · rintro H ⟨s, ys, hp, hD⟩
    rw [List.take_length] at hp
    exact hq H ys s hp hD
/-- .. where the items are a function of the source's -/
theorem lcF {J : It} {G : Hp → Prop} {α : Type} {L : List α} {F : α → V} (w : Walk J L.length G (YAt (L.map F))) {i : Nat} {tt : TT} {te : TE} {vs : List Nat} {σ : L2.St} {H1 : Hp} {D : Addr} {Q : Hp → Prop} (nD : H1 D = none) (hlen : L.length ≤ 1000)
    (p : α → Bool) (f : α → V) (hG : ∀ H, Same H1 H → G H) (hw : ∀ v, wipe ((wipe σ vs).set i (some v)) vs = wipe σ vs)
    (ht : ∀ x ∈ L, ∀ H R, Same H1 H → (∀ H3, Same H H3 → R (p x) H3) → tt ((wipe σ vs).set i (some (F x))) H R)
    (he : ∀ x ∈ L, p x = true → ∀ H R, Same H1 H → (∀ H3, Same H H3 → R (f x) H3) → te ((wipe σ vs).set i (some (F x))) H R)
    (hq : ∀ H, Same H1 H → H D = some (.lst ((L.filter p).map f)) → Q H) :
    ∃ W : Nat → Nat → Hp → Prop, (∃ m, W 0 m (upd H1 D (.lst []))) ∧ ∀ k m H, W k m H →
      (J.stop k H ∧ Q H) ∨ (J.go k H ∧ ∃ Nx : Hp → Prop, (∀ H', Nx H' → ∃ m', m' < m ∧ W (k + 1) m' H') ∧ ∀ x H', J.yld k H x H' → gName i x (wipe σ vs) H' fun σ2 H2 => wipe σ2 vs = wipe σ vs ∧ tt σ2 H2 fun b H3 =>
        if b = true then te σ2 H3 fun y H4 => ∃ got, H4 D = some (.lst got) ∧ got.length < sizeLine ∧ Nx (upd H4 D (.lst (got ++ [y]))) else Nx H3) :=
  lcG w nD hlen p (fun _ x y => y = f x) (fun _ _ _ _ _ z => z) hG hw ht (fun x hx hp H R s k => he x hx hp H R s fun H3 s3 => k H3 _ s3 rfl) fun H ys s hy hD => hq H s (by rw [← paired_fn hy]; exact hD)
/-! ### defs of the text -/
def top (i : Nat) : Stmt := PySem.Challenge.pw_struckboards_k01_whole_coming.main.body.getD i (.Pass ⟨0, 0, 0, 0⟩)
structure Dn (K : PySem.W.Frag) (mg : Str → Option Value) (x : Str) (st : Stmt) (ps : List Str) (f : Addr) (fd : FuncData) : Prop where
  F : Fun K x x st f fd
  g : mg x = some (.ref f)
  b : Binds K fd ps []
def Has (K : PySem.W.Frag) (mg : Str → Option Value) (x : Str) (st : Stmt) (ps : List Str) : Prop := ∃ f fd, Dn K mg x st ps f fd
end K1
/-! The defs of the text, their slots, what the top has bound. -/
namespace K1
open PySem PySem.Spec PyProof.Rows L2
abbrev s_is_int : Stmt := top 8
abbrev s_is_from : Stmt := top 9
abbrev s_is_place : Stmt := top 10
abbrev s_need_board : Stmt := top 11
abbrev s_sides : Stmt := top 12
abbrev s_lines_of : Stmt := top 13
abbrev s_is_lot : Stmt := top 14
abbrev s_need_lot : Stmt := top 15
abbrev s_left_of : Stmt := top 16
abbrev s_numbers : Stmt := top 17
abbrev s_same_side : Stmt := top 18
abbrev s_is_greater : Stmt := top 19
abbrev s_can_fall : Stmt := top 21
abbrev s_with_line : Stmt := top 22
abbrev s_run : Stmt := top 23
abbrev s_need_strikes : Stmt := top 24
abbrev s_play : Stmt := top 25
abbrev s_closure : Stmt := top 27
abbrev s_is_reached : Stmt := top 28
abbrev s_comes : Stmt := top 29
abbrev s_greatest_within : Stmt := top 30
abbrev s_stuck : Stmt := top 31
abbrev s_some_strikes : Stmt := top 32
abbrev s_shows_strikes : Stmt := top 33
abbrev s__law_taken : Stmt := top 35
abbrev s__law_pick : Stmt := top 36
abbrev s__law_alike : Stmt := top 37
abbrev s__law_is : Stmt := top 38
abbrev s__law_board : Stmt := top 39
abbrev s__law_rows : Stmt := top 40
abbrev s__law_columns : Stmt := top 41
abbrev s__law_numbers : Stmt := top 42
abbrev s__law_over : Stmt := top 43
abbrev s__law_ready : Stmt := top 44
abbrev s__law_with : Stmt := top 45
abbrev s__law_all : Stmt := top 46
abbrev s__law_drawn : Stmt := top 47
abbrev s__law_lot : Stmt := top 48
abbrev s_law : Stmt := top 49
theorem sc_is_int : FnScope ["value"] ["value"] (defScope s_is_int) := ⟨rfl, rfl, rfl, by decide +kernel, rfl, by decide +kernel, by decide +kernel⟩
theorem sc_is_from : FnScope ["value", "least", "most"] ["value", "least", "most"] (defScope s_is_from) := ⟨rfl, rfl, rfl, by decide +kernel, rfl, by decide +kernel, by decide +kernel⟩
theorem sc_is_place : FnScope ["value", "one"] ["value"] (defScope s_is_place) := ⟨rfl, rfl, rfl, by decide +kernel, rfl, by decide +kernel, by decide +kernel⟩
theorem sc_need_board : FnScope ["value", "index", "row", "place"] ["value"] (defScope s_need_board) := ⟨rfl, rfl, rfl, by decide +kernel, rfl, by decide +kernel, by decide +kernel⟩
theorem sc_sides : FnScope ["board"] ["board"] (defScope s_sides) := ⟨rfl, rfl, rfl, by decide +kernel, rfl, by decide +kernel, by decide +kernel⟩
theorem sc_lines_of : FnScope ["board"] ["board"] (defScope s_lines_of) := ⟨rfl, rfl, rfl, by decide +kernel, rfl, by decide +kernel, by decide +kernel⟩
theorem sc_is_lot : FnScope ["board", "value", "rows", "a", "b", "one"] ["board", "value"] (defScope s_is_lot) := ⟨rfl, rfl, rfl, by decide +kernel, rfl, by decide +kernel, by decide +kernel⟩
theorem sc_need_lot : FnScope ["board", "value"] ["board", "value"] (defScope s_need_lot) := ⟨rfl, rfl, rfl, by decide +kernel, rfl, by decide +kernel, by decide +kernel⟩
theorem sc_left_of : FnScope ["board", "lot", "rows", "one"] ["board", "lot"] (defScope s_left_of) := ⟨rfl, rfl, rfl, by decide +kernel, rfl, by decide +kernel, by decide +kernel⟩
theorem sc_numbers : FnScope ["board", "lot", "line", "rows", "columns", "row", "column"] ["board", "lot", "line"] (defScope s_numbers) := ⟨rfl, rfl, rfl, by decide +kernel, rfl, by decide +kernel, by decide +kernel⟩
theorem sc_same_side : FnScope ["board", "one", "other"] ["board", "one", "other"] (defScope s_same_side) := ⟨rfl, rfl, rfl, by decide +kernel, rfl, by decide +kernel, by decide +kernel⟩
theorem sc_is_greater : FnScope ["board", "lot", "line", "other", "a", "b"] ["board", "lot", "line", "other"] (defScope s_is_greater) := ⟨rfl, rfl, rfl, by decide +kernel, rfl, by decide +kernel, by decide +kernel⟩
theorem sc_can_fall : FnScope ["board", "lot", "line", "other"] ["board", "lot", "line"] (defScope s_can_fall) := ⟨rfl, rfl, rfl, by decide +kernel, rfl, by decide +kernel, by decide +kernel⟩
theorem sc_with_line : FnScope ["lot", "line"] ["lot", "line"] (defScope s_with_line) := ⟨rfl, rfl, rfl, by decide +kernel, rfl, by decide +kernel, by decide +kernel⟩
theorem sc_run : FnScope ["board", "strikes", "lot", "index", "line"] ["board", "strikes"] (defScope s_run) := ⟨rfl, rfl, rfl, by decide +kernel, rfl, by decide +kernel, by decide +kernel⟩
theorem sc_need_strikes : FnScope ["board", "value", "found"] ["board", "value"] (defScope s_need_strikes) := ⟨rfl, rfl, rfl, by decide +kernel, rfl, by decide +kernel, by decide +kernel⟩
theorem sc_play : FnScope ["board", "strikes"] ["board", "strikes"] (defScope s_play) := ⟨rfl, rfl, rfl, by decide +kernel, rfl, by decide +kernel, by decide +kernel⟩
theorem sc_closure : FnScope ["board", "within", "lot", "order", "some", "line"] ["board", "within"] (defScope s_closure) := ⟨rfl, rfl, rfl, by decide +kernel, rfl, by decide +kernel, by decide +kernel⟩
theorem sc_is_reached : FnScope ["board", "lot"] ["board", "lot"] (defScope s_is_reached) := ⟨rfl, rfl, rfl, by decide +kernel, rfl, by decide +kernel, by decide +kernel⟩
theorem sc_comes : FnScope ["board", "lot"] ["board", "lot"] (defScope s_comes) := ⟨rfl, rfl, rfl, by decide +kernel, rfl, by decide +kernel, by decide +kernel⟩
theorem sc_greatest_within : FnScope ["board", "lot"] ["board", "lot"] (defScope s_greatest_within) := ⟨rfl, rfl, rfl, by decide +kernel, rfl, by decide +kernel, by decide +kernel⟩
theorem sc_stuck : FnScope ["board", "lot", "done", "line"] ["board", "lot"] (defScope s_stuck) := ⟨rfl, rfl, rfl, by decide +kernel, rfl, by decide +kernel, by decide +kernel⟩
theorem sc_some_strikes : FnScope ["board", "lot", "found"] ["board", "lot"] (defScope s_some_strikes) := ⟨rfl, rfl, rfl, by decide +kernel, rfl, by decide +kernel, by decide +kernel⟩
theorem sc_shows_strikes : FnScope ["board", "lot", "value"] ["board", "lot", "value"] (defScope s_shows_strikes) := ⟨rfl, rfl, rfl, by decide +kernel, rfl, by decide +kernel, by decide +kernel⟩
theorem sc__law_taken : FnScope ["_law_row", "_law_many", "_law_found", "_law_cell"] ["_law_row", "_law_many"] (defScope s__law_taken) := ⟨rfl, rfl, rfl, by decide +kernel, rfl, by decide +kernel, by decide +kernel⟩
theorem sc__law_pick : FnScope ["_law_row", "_law_things"] ["_law_row", "_law_things"] (defScope s__law_pick) := ⟨rfl, rfl, rfl, by decide +kernel, rfl, by decide +kernel, by decide +kernel⟩
theorem sc__law_alike : FnScope ["_law_found", "_law_due", "_law_k"] ["_law_found", "_law_due"] (defScope s__law_alike) := ⟨rfl, rfl, rfl, by decide +kernel, rfl, by decide +kernel, by decide +kernel⟩
theorem sc__law_is : FnScope ["_law_found", "_law_due"] ["_law_found", "_law_due"] (defScope s__law_is) := ⟨rfl, rfl, rfl, by decide +kernel, rfl, by decide +kernel, by decide +kernel⟩
theorem sc__law_board : FnScope ["_law_row", "_law_rows_here", "_law_columns_here", "_law_many", "_law_high", "_law_wide", "_law_found", "_law_first", "_law_second", "_law_one", "_law_told", "_law_at"] ["_law_row", "_law_rows_here", "_law_columns_here", "_law_many"] (defScope s__law_board) := ⟨rfl, rfl, rfl, by decide +kernel, rfl, by decide +kernel, by decide +kernel⟩
theorem sc__law_rows : FnScope ["_law_board_here", "_law_lot_here", "_law_one"] ["_law_board_here", "_law_lot_here"] (defScope s__law_rows) := ⟨rfl, rfl, rfl, by decide +kernel, rfl, by decide +kernel, by decide +kernel⟩
theorem sc__law_columns : FnScope ["_law_board_here", "_law_lot_here", "_law_one"] ["_law_board_here", "_law_lot_here"] (defScope s__law_columns) := ⟨rfl, rfl, rfl, by decide +kernel, rfl, by decide +kernel, by decide +kernel⟩
theorem sc__law_numbers : FnScope ["_law_board_here", "_law_lot_here", "_law_line", "_law_one"] ["_law_board_here", "_law_lot_here", "_law_line"] (defScope s__law_numbers) := ⟨rfl, rfl, rfl, by decide +kernel, rfl, by decide +kernel, by decide +kernel⟩
theorem sc__law_over : FnScope ["_law_board_here", "_law_lot_here", "_law_line", "_law_side", "_law_own", "_law_found", "_law_other", "_law_told", "_law_at"] ["_law_board_here", "_law_lot_here", "_law_line"] (defScope s__law_over) := ⟨rfl, rfl, rfl, by decide +kernel, rfl, by decide +kernel, by decide +kernel⟩
theorem sc__law_ready : FnScope ["_law_board_here", "_law_lot_here", "_law_line"] ["_law_board_here", "_law_lot_here"] (defScope s__law_ready) := ⟨rfl, rfl, rfl, by decide +kernel, rfl, by decide +kernel, by decide +kernel⟩
theorem sc__law_with : FnScope ["_law_lot_here", "_law_line"] ["_law_lot_here", "_law_line"] (defScope s__law_with) := ⟨rfl, rfl, rfl, by decide +kernel, rfl, by decide +kernel, by decide +kernel⟩
theorem sc__law_all : FnScope ["_law_board_here", "_law_found", "_law_edge", "_law_later", "_law_lot_here", "_law_line", "_law_more"] ["_law_board_here"] (defScope s__law_all) := ⟨rfl, rfl, rfl, by decide +kernel, rfl, by decide +kernel, by decide +kernel⟩
theorem sc__law_drawn : FnScope ["_law_row", "_law_board_here", "_law_many", "_law_lot_here", "_law_found", "_law_turn", "_law_some", "_law_line"] ["_law_row", "_law_board_here", "_law_many"] (defScope s__law_drawn) := ⟨rfl, rfl, rfl, by decide +kernel, rfl, by decide +kernel, by decide +kernel⟩
theorem sc__law_lot : FnScope ["_law_row", "_law_board_here", "_law_high", "_law_wide", "_law_found", "_law_line", "_law_rows_here"] ["_law_row", "_law_board_here"] (defScope s__law_lot) := ⟨rfl, rfl, rfl, by decide +kernel, rfl, by decide +kernel, by decide +kernel⟩
theorem sc_law : FnScope ["_law_script", "_law_row", "_law_board_here", "_law_lot_here", "_law_known", "_law_inner", "_law_top", "_law_rest", "_law_strikes", "_law_drawn_here", "_law_last", "_law_odd", "_law_one", "_law_line"] ["_law_script"] (defScope s_law) := ⟨rfl, rfl, rfl, by decide +kernel, rfl, by decide +kernel, by decide +kernel⟩
/-- what the top has bound -/
structure Txt (K : PySem.W.Frag) (mg : Str → Option Value) : Prop where
  bisinstance : mg "isinstance" = none
  blen : mg "len" = none
  bsum : mg "sum" = none
  ball : mg "all" = none
  bany : mg "any" = none
  bmax : mg "max" = none
  bsorted : mg "sorted" = none
  bint : mg "int" = none
  bbool : mg "bool" = none
  btuple : mg "tuple" = none
  blist : mg "list" = none
  bstr : mg "str" = none
  brange : mg "range" = none
  bzip : mg "zip" = none
  benumerate : mg "enumerate" = none
  cMOST_SIDE : ∃ t, mg "MOST_SIDE" = some (.int 6 t)
  cMOST_VALUE : ∃ t, mg "MOST_VALUE" = some (.int 1000 t)
  h_is_int : Has K mg "is_int" s_is_int ["value"]
  h_is_from : Has K mg "is_from" s_is_from ["value", "least", "most"]
  h_is_place : Has K mg "is_place" s_is_place ["value"]
  h_need_board : Has K mg "need_board" s_need_board ["value"]
  h_sides : Has K mg "sides" s_sides ["board"]
  h_lines_of : Has K mg "lines_of" s_lines_of ["board"]
  h_is_lot : Has K mg "is_lot" s_is_lot ["board", "value"]
  h_need_lot : Has K mg "need_lot" s_need_lot ["board", "value"]
  h_left_of : Has K mg "left_of" s_left_of ["board", "lot"]
  h_numbers : Has K mg "numbers" s_numbers ["board", "lot", "line"]
  h_same_side : Has K mg "same_side" s_same_side ["board", "one", "other"]
  h_is_greater : Has K mg "is_greater" s_is_greater ["board", "lot", "line", "other"]
  h_can_fall : Has K mg "can_fall" s_can_fall ["board", "lot", "line"]
  h_with_line : Has K mg "with_line" s_with_line ["lot", "line"]
  h_run : Has K mg "run" s_run ["board", "strikes"]
  h_need_strikes : Has K mg "need_strikes" s_need_strikes ["board", "value"]
  h_play : Has K mg "play" s_play ["board", "strikes"]
  h_closure : Has K mg "closure" s_closure ["board", "within"]
  h_is_reached : Has K mg "is_reached" s_is_reached ["board", "lot"]
  h_comes : Has K mg "comes" s_comes ["board", "lot"]
  h_greatest_within : Has K mg "greatest_within" s_greatest_within ["board", "lot"]
  h_stuck : Has K mg "stuck" s_stuck ["board", "lot"]
  h_some_strikes : Has K mg "some_strikes" s_some_strikes ["board", "lot"]
  h_shows_strikes : Has K mg "shows_strikes" s_shows_strikes ["board", "lot", "value"]
  h__law_taken : Has K mg "_law_taken" s__law_taken ["_law_row", "_law_many"]
  h__law_pick : Has K mg "_law_pick" s__law_pick ["_law_row", "_law_things"]
  h__law_alike : Has K mg "_law_alike" s__law_alike ["_law_found", "_law_due"]
  h__law_is : Has K mg "_law_is" s__law_is ["_law_found", "_law_due"]
  h__law_board : Has K mg "_law_board" s__law_board ["_law_row", "_law_rows_here", "_law_columns_here", "_law_many"]
  h__law_rows : Has K mg "_law_rows" s__law_rows ["_law_board_here", "_law_lot_here"]
  h__law_columns : Has K mg "_law_columns" s__law_columns ["_law_board_here", "_law_lot_here"]
  h__law_numbers : Has K mg "_law_numbers" s__law_numbers ["_law_board_here", "_law_lot_here", "_law_line"]
  h__law_over : Has K mg "_law_over" s__law_over ["_law_board_here", "_law_lot_here", "_law_line"]
  h__law_ready : Has K mg "_law_ready" s__law_ready ["_law_board_here", "_law_lot_here"]
  h__law_with : Has K mg "_law_with" s__law_with ["_law_lot_here", "_law_line"]
  h__law_all : Has K mg "_law_all" s__law_all ["_law_board_here"]
  h__law_drawn : Has K mg "_law_drawn" s__law_drawn ["_law_row", "_law_board_here", "_law_many"]
  h__law_lot : Has K mg "_law_lot" s__law_lot ["_law_row", "_law_board_here"]
end K1
namespace K1
open PySem PySem.Spec PyProof.Rows L2
/-! ### small lemmas -/
theorem q_bl {Q : VK} {H : Hp} {a b : Bool} (e : a = b) (h : Q (.bl b) H) : Q (.bl a) H := by rw [e]; exact h
theorem slA_drop {K : PySem.W.Frag} {H : Hp} {σ : L2.St} {a : Addr} {xs : List V} {n : Nat} {z : Int} {Q : VK} (hz : z = (n : Int)) (h : H a = some (.tup xs)) (k : ∀ H1 t, Same H H1 → H1 t = some (.tup (xs.drop n)) → Q (.ref t) H1) : tNoPart σ H (fun u H3 => rSlA K (.ref a) (some z) u H3 Q) := by
  subst hz
  show rSlA K (.ref a) (some (n : Int)) none H Q
  refine ⟨a, xs, rfl, SqT.of h, fun hw => ?_, fun hw p hp => ?_⟩
  · rw [HT.sIx_nat] at hw
    refine k H a (Same.refl _) ?_
    have : xs.drop n = xs := by
      have h1 := hw.1
      by_cases e : n = 0
      · rw [e]; rfl
      · have : xs.length = 0 := by omega
        rw [List.length_eq_zero_iff.mp this]; simp
    rw [this]; exact h
  · have e : cutV xs (some (n : Int)) none = xs.drop n := by
      unfold cutV
      rw [HT.sIx_nat, HT.sIx_none]
      by_cases c : n ≤ xs.length
      · rw [Nat.min_eq_left c]
        exact List.take_of_length_le (by rw [List.length_drop]; omega)
      · have h1 : min n xs.length = xs.length := Nat.min_eq_right (by omega)
        rw [h1, List.drop_of_length_le (Nat.le_refl _), List.drop_of_length_le (by omega), List.take_nil]
    rw [e]
    exact k _ p (same_new hp) upd_same
theorem lcZ {K : PySem.W.Frag} {J : It} {G : Hp → Prop} {xs ys : List V} (w : Walk J (min xs.length ys.length) G (YPair (fun i => xs[i]?) (fun i => ys[i]?))) {i j : Nat} {te : TE} {vs : List Nat} {σ : L2.St} {H1 : Hp} {D : Addr} {Q : Hp → Prop} (nD : H1 D = none) (hlen : xs.length ≤ 1000)
    (f : V → V → V) (hG : ∀ H, Same H1 H → G H) (hw : ∀ u v, wipe (((wipe σ vs).set i (some u)).set j (some v)) vs = wipe σ vs)
    (he : ∀ (k : Nat) (x y : V), xs[k]? = some x → ys[k]? = some y → ∀ H R, Same H1 H → (∀ H3, Same H H3 → R (f x y) H3) → te (((wipe σ vs).set i (some x)).set j (some y)) H R)
    (hq : ∀ H, Same H1 H → H D = some (.lst (List.zipWith f xs ys)) → Q H) :
    ∃ W : Nat → Nat → Hp → Prop, (∃ m, W 0 m (upd H1 D (.lst []))) ∧ ∀ k m H, W k m H →
      (J.stop k H ∧ Q H) ∨ (J.go k H ∧ ∃ Nx : Hp → Prop, (∀ H', Nx H' → ∃ m', m' < m ∧ W (k + 1) m' H') ∧ ∀ x H', J.yld k H x H' → gTup K 2 (gCons (gName i) (gCons (gName j) gNil)) x (wipe σ vs) H' fun σ2 H2 => wipe σ2 vs = wipe σ vs ∧ tYes σ2 H2 fun b H3 =>
        if b = true then te σ2 H3 fun y H4 => ∃ got, H4 D = some (.lst got) ∧ got.length < sizeLine ∧ Nx (upd H4 D (.lst (got ++ [y]))) else Nx H3) := by
  have hzl : (List.zipWith f xs ys).length = min xs.length ys.length := List.length_zipWith
  refine lc_it w (fun k H => Same H1 H ∧ H D = some (.lst ((List.zipWith f xs ys).take k))) ⟨same_new nD, upd_same⟩ (fun k H _ h => hG H h.1) ?_ ?_
  · rintro k v H H' hk ⟨s, hD⟩ ⟨T, x, y, ev, nT, eH, hx, hy⟩
    subst ev eH
    refine ⟨T, [x, y], rfl, SqT.of upd_same, rfl, x, [y], rfl, y, [], rfl, rfl, hw _ _, ?_⟩
    dsimp only [tYes]
    rw [if_pos rfl]
    have s1 : Same H (upd H T (.tup [x, y])) := same_new nT
    refine he k x y hx hy _ _ (s.trans s1) fun H3 s3 => ?_
    refine ⟨_, s3 _ _ (s1 _ _ hD), ?_, same_upd ((s.trans s1).trans s3) nD, ?_⟩
    · refine small1000 ?_
      rw [List.length_take]; omega
    · rw [upd_same, List.take_add_one]
      have e : (List.zipWith f xs ys)[k]? = some (f x y) := by
        have hx' : xs[k]? = some x := hx
        have hy' : ys[k]? = some y := hy
        rw [List.getElem?_zipWith, hx', hy']
      rw [e]
      rfl
  · rintro H ⟨s, hD⟩
    rw [← hzl, List.take_length] at hD
    exact hq H s hD
/-! ### is_int, is_from -/
def IsItem (H : Hp) (v : V) : Prop := (∃ i, v = .int i) ∨ (∃ b, v = .bl b) ∨ ∃ p xs, v = .ref p ∧ H p = some (.tup xs)
theorem IsItem.same {H H' : Hp} {v : V} (h : IsItem H v) (s : Same H H') : IsItem H' v := by
  rcases h with h | h | ⟨p, xs, e, hp⟩
  · exact .inl h
  · exact .inr (.inl h)
  · exact .inr (.inr ⟨p, xs, e, s _ _ hp⟩)
def isI : V → Bool
  | .int _ => true
  | _ => false
def inB (lo hi : Int) : V → Bool
  | .int i => decide (lo ≤ i) && decide (i ≤ hi)
  | _ => false
section
variable {P : Program} {w : World} {K : PySem.W.Frag} {mg : Str → Option Value} {base : Heap}
def sp_is_int (K : PySem.W.Frag) : Sp := fun vs H Q _ => ∃ v, vs = [v] ∧ IsItem H v ∧ Q (.bl (isI v)) H
theorem ok_is_int {f : Addr} {fd : FuncData} (T : Txt K mg) (d : Dn K mg "is_int" s_is_int ["value"] f fd) : FnOk P w K mg base CX0 1 f fd ["value"] (sp_is_int K) := by
  refine d.F.ok sc_is_int (fun vs H Q E h => ?_) (fun cdv A outer s H vs Q E hr h => ?_)
  · obtain ⟨v, rfl, it, k⟩ := h
    rfl
  · obtain ⟨v, rfl, it, k⟩ := h
    have nd := sc_is_int.nd
    have hu := hu_of hr
    refine ⟨_, (pss_one (ps_ret (pe_and (pe_callB (id := "isinstance") (kc_isi (K := K)) (by rfl) T.bisinstance (by decide +kernel) (pa_cons (pv 0) (pa_cons (pe_bltn (v := .ty "int") (by rfl) T.bint (by decide +kernel) rfl) pa_nil))) (pe_one (pe_not (pe_callB (id := "isinstance") (kc_isi (K := K)) (by rfl) T.bisinstance (by decide +kernel) (pa_cons (pv 0) (pa_cons (pe_bltn (v := .ty "bool") (by rfl) T.bbool (by decide +kernel) rfl) pa_nil)))))))), ?_⟩
    rcases it with ⟨i, rfl⟩ | ⟨b, rfl⟩ | ⟨p, xs, rfl, hp⟩
    · refine ⟨_, rfl, _, _, _, _, true, rfl, .ty _, .base (.int i), kit_ty (by decide +kernel), true, rfl, iteT ?_⟩
      exact ⟨_, rfl, _, _, _, _, false, rfl, .ty _, .base (.int i), kit_ty (by decide +kernel), false, rfl, k⟩
    · refine ⟨_, rfl, _, _, _, _, true, rfl, .ty _, .base (.bl b), kit_ty (by decide +kernel), true, rfl, iteT ?_⟩
      exact ⟨_, rfl, _, _, _, _, true, rfl, .ty _, .base (.bl b), kit_ty (by decide +kernel), true, rfl, k⟩
    · exact ⟨_, rfl, _, _, _, _, false, rfl, .ty _, .base (.tup hp), kit_ty (by decide +kernel), false, rfl, iteF k⟩
def sp_is_from (K : PySem.W.Frag) : Sp := fun vs H Q _ => ∃ v lo hi, vs = [v, .int lo, .int hi] ∧ IsItem H v ∧ Q (.bl (inB lo hi v)) H
theorem ok_is_from {f : Addr} {fd : FuncData} (T : Txt K mg) (d : Dn K mg "is_from" s_is_from ["value", "least", "most"] f fd) : FnOk P w K mg base CX0 2 f fd ["value", "least", "most"] (sp_is_from K) := by
  obtain ⟨f_is_int, fd_is_int, d_is_int⟩ := T.h_is_int
  have g_is_int : FnOk P w K mg base CX0 1 f_is_int fd_is_int ["value"] (sp_is_int K) := ok_is_int T d_is_int
  refine d.F.ok sc_is_from (fun vs H Q E h => ?_) (fun cdv A outer s H vs Q E hr h => ?_)
  · obtain ⟨v, lo, hi, rfl, it, k⟩ := h
    rfl
  · obtain ⟨v, lo, hi, rfl, it, k⟩ := h
    have nd := sc_is_from.nd
    have hu := hu_of hr
    refine ⟨_, (pss_one (ps_ret (pe_and (pe_call g_is_int (hr.mono (by decide)) (by rfl) d_is_int.g d_is_int.F.kp d_is_int.b .nil pass0 (pa_cons (pv 0) pa_nil)) (pe_one (pe_chain op_le op_le (pv 1) (pv 0) (pv 2)))))), ?_⟩
    refine ⟨_, rfl, _, rfl, it, _, rfl, ?_⟩
    rcases it with ⟨i, rfl⟩ | ⟨b, rfl⟩ | ⟨p, xs, rfl, hp⟩
    · refine iteT ⟨_, rfl, _, rfl, _, _, rfl, rfl, _, rfl, ?_⟩
      have k' : Q (.bl (decide (lo ≤ i) && decide (i ≤ hi))) H := k
      cases e : decide (lo ≤ i) with
      | true =>
        rw [e] at k'
        exact iteT ⟨_, rfl, _, _, rfl, rfl, k'⟩
      | false =>
        rw [e] at k'
        exact iteF k'
    · exact iteF k
    · exact iteF k
/-! ### sides, lines_of -/
def sp_sides (K : PySem.W.Frag) : Sp := fun vs H Q _ => ∃ a B, vs = [.ref a] ∧ BoardAt H B a ∧ BoardOk B ∧ ∀ H' p, Same H H' → H p = none → H' p = some (.tup [nV (hB B), nV (wB B)]) → Q (.ref p) H'
theorem ok_sides {f : Addr} {fd : FuncData} (T : Txt K mg) (d : Dn K mg "sides" s_sides ["board"] f fd) : FnOk P w K mg base CX0 1 f fd ["board"] (sp_sides K) := by
  refine d.F.ok sc_sides (fun vs H Q E h => ?_) (fun cdv A outer s H vs Q E hr h => ?_)
  · obtain ⟨a, B, rfl, hb, bo, k⟩ := h
    rfl
  · obtain ⟨a, B, rfl, hb, bo, k⟩ := h
    have nd := sc_sides.nd
    have hu := hu_of hr
    refine ⟨_, (pss_one (ps_ret (pe_tup (pa_cons (pe_callB (id := "len") (kc_len (K := K)) (by rfl) T.blen (by decide +kernel) (pa_cons (pv 0) pa_nil)) (pa_cons (pe_callB (id := "len") (kc_len (K := K)) (by rfl) T.blen (by decide +kernel) (pa_cons (pe_ix (k_ixT (K := K)) (pv 0) pe_int (fun _ _ => rfl)) pa_nil)) pa_nil))))), ?_⟩
    obtain ⟨rs, qs, r, h1, h2, h3, h4, h5⟩ := hb.row0 bo
    refine ⟨_, rfl, a, _, rfl, .inr (SqT.of h1), ?_⟩
    refine ⟨_, rfl, a, _, (0 : Nat), .ref r, rfl, rfl, SqT.of h1, atI_nat h3, r, _, rfl, .inr (SqT.of h4), by show 2 ≤ sizeLine; decide, fun p hp => ?_⟩
    refine k _ p (same_new hp) hp ?_
    rw [upd_same, List.length_map, List.length_map, h2, h5]
theorem sum2 (B : Board) : ([((hB B : Nat) : Int), ((wB B : Nat) : Int)]).sum = ((nB B : Nat) : Int) := by
  show ((hB B : Nat) : Int) + (((wB B : Nat) : Int) + 0) = ((hB B + wB B : Nat) : Int)
  omega
theorem rgV_nV (m : Nat) : rgV 0 (m : Int) = (List.range m).map nV := by
  unfold rgV
  have e : ((m : Int) - 0).toNat = m := by omega
  rw [e]
  refine List.map_congr_left fun i _ => ?_
  show V.int (0 + (i : Int)) = V.int (i : Int)
  rw [Int.zero_add]
theorem nB_le {B : Board} (bo : BoardOk B) : nB B ≤ 12 := by
  have h1 := bo.h6
  have h2 := bo.w6
  have h3 : nB B = hB B + wB B := rfl
  omega
def sp_lines_of (K : PySem.W.Frag) : Sp := fun vs H Q _ => ∃ a B, vs = [.ref a] ∧ BoardAt H B a ∧ BoardOk B ∧ ∀ H' p, Same H H' → H p = none → H' p = some (.tup ((List.range (nB B)).map nV)) → Q (.ref p) H'
theorem ok_lines_of {f : Addr} {fd : FuncData} (T : Txt K mg) (d : Dn K mg "lines_of" s_lines_of ["board"] f fd) : FnOk P w K mg base CX0 2 f fd ["board"] (sp_lines_of K) := by
  obtain ⟨f_sides, fd_sides, d_sides⟩ := T.h_sides
  have g_sides : FnOk P w K mg base CX0 1 f_sides fd_sides ["board"] (sp_sides K) := ok_sides T d_sides
  refine d.F.ok sc_lines_of (fun vs H Q E h => ?_) (fun cdv A outer s H vs Q E hr h => ?_)
  · obtain ⟨a, B, rfl, hb, bo, k⟩ := h
    rfl
  · obtain ⟨a, B, rfl, hb, bo, k⟩ := h
    have nd := sc_lines_of.nd
    have hu := hu_of hr
    refine ⟨_, (pss_one (ps_ret (pe_tupRg rfl (by rfl) T.btuple (prg_1 (by rfl) T.brange (pe_callB (id := "sum") (kc_sumT (K := K) rfl) (by rfl) T.bsum (by decide +kernel) (pa_cons (pe_call g_sides (hr.mono (by decide)) (by rfl) d_sides.g d_sides.F.kp d_sides.b .nil pass0 (pa_cons (pv 0) pa_nil)) pa_nil)))))), ?_⟩
    have hn := nB_le bo
    refine ⟨_, rfl, a, B, rfl, hb, bo, fun H1 p s1 n1 e1 => ?_⟩
    refine ⟨p, [((hB B : Nat) : Int), ((wB B : Nat) : Int)], rfl, SqT.of e1, _, rfl, ?_⟩
    rw [sum2]
    refine ⟨.of_le (Int.le_refl 0) (by omega) (by decide) (by omega), fun q hq => ?_⟩
    refine k _ q (same_upd s1 (s1.free hq)) (s1.free hq) ?_
    rw [upd_same, rgV_nV]
/-! ### is_place, need_board -/
def sp_is_place (K : PySem.W.Frag) : Sp := fun vs H Q _ => ∃ p x y, vs = [.ref p] ∧ H p = some (.tup [.int x, .int y]) ∧ (-1000 ≤ x ∧ x ≤ 1000 ∧ -1000 ≤ y ∧ y ≤ 1000) ∧ ∀ H', Same H H' → Q (.bl true) H'
theorem ok_is_place {f : Addr} {fd : FuncData} (T : Txt K mg) (d : Dn K mg "is_place" s_is_place ["value"] f fd) : FnOk P w K mg base CX0 3 f fd ["value"] (sp_is_place K) := by
  obtain ⟨f_is_from, fd_is_from, d_is_from⟩ := T.h_is_from
  have g_is_from : FnOk P w K mg base CX0 2 f_is_from fd_is_from ["value", "least", "most"] (sp_is_from K) := ok_is_from T d_is_from
  obtain ⟨tMOST_VALUE, cMOST_VALUE⟩ := T.cMOST_VALUE
  refine d.F.ok sc_is_place (fun vs H Q E h => ?_) (fun cdv A outer s H vs Q E hr h => ?_)
  · obtain ⟨p, x, y, rfl, hp, hb, k⟩ := h
    rfl
  · obtain ⟨p, x, y, rfl, hp, hb, k⟩ := h
    have nd := sc_is_place.nd
    have hu := hu_of hr
    refine ⟨_, (pss_cons (ps_if (PW.pt (pw_or (pt_not (pt_val (pe_callB (id := "isinstance") (kc_isi (K := K)) (by rfl) T.bisinstance (by decide +kernel) (pa_cons (pv 0) (pa_cons (pe_bltn (v := .ty "tuple") (by rfl) T.btuple (by decide +kernel) rfl) pa_nil))))) (pw_or1 (pt_cmpR op_ne (pe_callB (id := "len") (kc_len (K := K)) (by rfl) T.blen (by decide +kernel) (pa_cons (pv 0) pa_nil)) pe_int (by rfl)))))
        (pss_one (ps_ret pe_bl))
        pss_nil)
      (pss_one (ps_ret (pe_callB (id := "all") (kc_all (K := K) rfl) (by rfl) T.ball (by decide +kernel) (pa_cons (pe_lc (own := [("one", 1)]) rfl nd (k_piT (K := K) (pv 0)) (blkOk_by (N := ["value", "one"]) (sc := defScope s_is_place) (by decide +kernel)) (fun _ _ _ _ _ => pg_name (i := 1) nd rfl (Or.inl rfl)) (fun _ _ _ _ _ => pts_nil) (fun _ _ _ _ _ => (pe_call g_is_from (hr.mono (by decide)) (by rfl) d_is_from.g d_is_from.F.kp d_is_from.b .nil pass0 (pa_cons (pv 1) (pa_cons (pe_un un_neg (pe_glob (v := .int 1000) rfl cMOST_VALUE ⟨_, rfl⟩)) (pa_cons (pe_glob (v := .int 1000) rfl cMOST_VALUE ⟨_, rfl⟩) pa_nil)))))) pa_nil))))), ?_⟩
    refine ⟨_, rfl, _, _, _, _, true, rfl, .ty _, .base (.tup hp), kit_ty (by decide +kernel), true, rfl, iteF ?_⟩
    refine ⟨_, rfl, p, _, rfl, .inr (SqT.of hp), rfl, _, rfl, iteNS rfl ?_⟩
    refine ⟨_, rfl, p, rfl, ⟨_, SqT.of hp⟩, fun D nD => ?_⟩
    refine lcF (L := [x, y]) (F := V.int) walk_tupM nD (by show 2 ≤ 1000; decide) (fun _ => true) (fun _ => .bl true) (fun H1 s => SqT.of (s _ _ hp)) (fun _ => rfl) (fun _ _ H1 R _ kk => kk H1 (Same.refl _)) ?_ ?_
    · intro z hz _ H1 R s kk
      refine ⟨_, rfl, 1000, rfl, _, _, _, rfl, .inl ⟨_, rfl⟩, ?_⟩
      have hz2 : -1000 ≤ z ∧ z ≤ 1000 := by
        rcases List.mem_cons.mp hz with rfl | hz
        · exact ⟨hb.1, hb.2.1⟩
        · rw [List.mem_singleton.mp hz]; exact ⟨hb.2.2.1, hb.2.2.2⟩
      have e : inB (-1000) 1000 (.int z) = true := by
        show (decide (-1000 ≤ z) && decide (z ≤ 1000)) = true
        rw [decide_eq_true hz2.1, decide_eq_true hz2.2]; rfl
      show R (.bl (inB (-1000) 1000 (.int z))) H1
      rw [e]
      exact kk H1 (Same.refl _)
    · intro H1 s hD
      exact ⟨D, [true, true], rfl, SqL.of hD, k H1 s⟩
end
end K1
namespace K1
open PySem PySem.Spec PyProof.Rows L2
section
variable {P : Program} {w : World} {K : PySem.W.Frag} {mg : Str → Option Value} {base : Heap}
theorem filter_yes {α : Type} (L : List α) : (L.filter fun _ => true) = L := List.filter_eq_self.mpr fun _ _ => rfl
theorem trues (α : Type) (L : List α) : ((L.filter fun _ => true).map fun _ => V.bl true) = (L.map fun _ => true).map V.bl := by
  rw [filter_yes, List.map_map]
  rfl
theorem trues_all (α : Type) (L : List α) : (L.map fun _ => true).all id = true := by
  rw [List.all_map]
  exact List.all_eq_true.mpr fun _ _ => rfl
/-! ### need_board -/
def sp_need_board (K : PySem.W.Frag) : Sp := fun vs H Q _ => ∃ a B, vs = [.ref a] ∧ BoardAt H B a ∧ BoardOk B ∧ ∀ H', Same H H' → Q .non H'
theorem ok_need_board {f : Addr} {fd : FuncData} (T : Txt K mg) (d : Dn K mg "need_board" s_need_board ["value"] f fd) : FnOk P w K mg base CX0 4 f fd ["value"] (sp_need_board K) := by
  obtain ⟨f_is_place, fd_is_place, d_is_place⟩ := T.h_is_place
  have g_is_place : FnOk P w K mg base CX0 3 f_is_place fd_is_place ["value"] (sp_is_place K) := ok_is_place T d_is_place
  obtain ⟨tMOST_SIDE, cMOST_SIDE⟩ := T.cMOST_SIDE
  refine d.F.ok sc_need_board (fun vs H Q E h => ?_) (fun cdv A outer s H vs Q E hr h => ?_)
  · obtain ⟨a, B, rfl, hb, bo, k⟩ := h
    rfl
  · obtain ⟨a, B, rfl, hb, bo, k⟩ := h
    have nd := sc_need_board.nd
    have hu := hu_of hr
    refine ⟨_, (pss_cons (ps_if (PW.pt (pw_or (pt_not (pt_val (pe_callB (id := "isinstance") (kc_isi (K := K)) (by rfl) T.bisinstance (by decide +kernel) (pa_cons (pv 0) (pa_cons (pe_bltn (v := .ty "tuple") (by rfl) T.btuple (by decide +kernel) rfl) pa_nil))))) (pw_or1 (pt_not (pt_chain op_le op_le pe_int (pe_callB (id := "len") (kc_len (K := K)) (by rfl) T.blen (by decide +kernel) (pa_cons (pv 0) pa_nil)) (pe_glob (v := .int 6) rfl cMOST_SIDE ⟨_, rfl⟩))))))
        (pss_one ps_never)
        pss_nil)
      (pss_one (ps_for PassesOwn.never rfl (k_piE (K := K) (by rfl) T.benumerate (pa_cons (pv 0) pa_nil)) (k_tup (K := K) (n := 2) rfl (pgs_cons (pg_name (i := 1) nd rfl (Or.inl rfl)) (pgs_cons (pg_name (i := 2) nd rfl (Or.inl rfl)) pgs_nil)))
        (pss_cons (ps_if (PW.pt (pw_or (pt_not (pt_val (pe_callB (id := "isinstance") (kc_isi (K := K)) (by rfl) T.bisinstance (by decide +kernel) (pa_cons (pv 2) (pa_cons (pe_bltn (v := .ty "tuple") (by rfl) T.btuple (by decide +kernel) rfl) pa_nil))))) (pw_or (pt_not (pt_chain op_le op_le pe_int (pe_callB (id := "len") (kc_len (K := K)) (by rfl) T.blen (by decide +kernel) (pa_cons (pv 2) pa_nil)) (pe_glob (v := .int 6) rfl cMOST_SIDE ⟨_, rfl⟩))) (pw_or1 (pt_cmpR op_ne (pe_callB (id := "len") (kc_len (K := K)) (by rfl) T.blen (by decide +kernel) (pa_cons (pv 2) pa_nil)) (pe_callB (id := "len") (kc_len (K := K)) (by rfl) T.blen (by decide +kernel) (pa_cons (pe_ix (k_ixT (K := K)) (pv 0) pe_int (fun _ _ => rfl)) pa_nil)) (by rfl))))))
          (pss_one ps_never)
          pss_nil)
        (pss_one (ps_if (pt_not (pt_val (pe_callB (id := "all") (kc_all (K := K) rfl) (by rfl) T.ball (by decide +kernel) (pa_cons (pe_lc (own := [("place", 3)]) rfl nd (k_piT (K := K) (pv 2)) (blkOk_by (N := ["value", "index", "row", "place"]) (sc := defScope s_need_board) (by decide +kernel)) (fun _ _ _ _ _ => pg_name (i := 3) nd rfl (Or.inl rfl)) (fun _ _ _ _ _ => pts_nil) (fun _ _ _ _ _ => (pe_call g_is_place (hr.mono (by decide)) (by rfl) d_is_place.g d_is_place.F.kp d_is_place.b .nil pass0 (pa_cons (pv 3) pa_nil)))) pa_nil))))
          (pss_one ps_never)
          pss_nil)))))), ?_⟩
    have b1 := bo.h1
    have b6 := bo.h6
    have w1 := bo.w1
    have w6 := bo.w6
    obtain ⟨rs, h1, h2, h3⟩ := id hb
    have hl : (rs.map V.ref).length = hB B := by rw [List.length_map]; exact h2
    have inR : ∀ n : Nat, 1 ≤ n → n ≤ 6 → decide ((1 : Int) ≤ (n : Int)) = true ∧ decide ((n : Int) ≤ 6) = true := fun n a b => ⟨decide_eq_true (by omega), decide_eq_true (by omega)⟩
    refine ⟨_, rfl, _, _, _, _, true, rfl, .ty _, .base (.tup h1), kit_ty (by decide +kernel), true, rfl, iteF ?_⟩
    refine ⟨_, rfl, a, _, rfl, .inr (SqT.of h1), _, _, rfl, rfl, _, rfl, ?_⟩
    rw [hl, (inR _ b1 b6).1]
    refine iteT ⟨_, _, rfl, rfl, _, rfl, ?_⟩
    rw [(inR _ b1 b6).2]
    refine iteF ?_
    refine ⟨_, rfl, a, rs.map V.ref, rfl, SqT.of h1, ?_⟩
    refine for_it walk_enumT (fun i σ H' => ∃ v1 v2 v3, σ = [some (.ref a), v1, v2, v3] ∧ Same H H') ⟨none, none, none, rfl, Same.refl _⟩ (fun i σ H' _ ⟨_, _, _, _, s⟩ => SqT.of (s _ _ h1)) ?_ ?_
    · rintro i v σ H1 H1' hi ⟨v1, v2, v3, rfl, s⟩ ⟨T, x, y, rfl, nT, rfl, hx, hy⟩
      obtain rfl : V.int (i : Int) = x := Option.some.inj hx
      rw [hl] at hi
      obtain ⟨r, e1, qs, e2, e3, e4⟩ := h3 i _ (List.getElem?_eq_getElem hi)
      obtain rfl : V.ref r = y := Option.some.inj ((refs_get e1).symm.trans hy)
      have hrl : (B[i]).length = wB B := bo.rows _ (List.getElem_mem hi)
      have hql : (qs.map V.ref).length = wB B := by rw [List.length_map, e3, hrl]
      have s2 : Same H (upd H1 T (.tup [.int (i : Int), .ref r])) := s.trans (same_new nT)
      obtain ⟨rs', qs', r', g1, g2, g3, g4, g5⟩ := hb.row0 bo
      have f2 := s2 _ _ e2
      refine ⟨T, [.int (i : Int), .ref r], rfl, SqT.of upd_same, rfl, _, _, rfl, _, _, rfl, rfl, ?_⟩
      refine ⟨_, rfl, _, _, _, _, true, rfl, .ty _, .base (.tup f2), kit_ty (by decide +kernel), true, rfl, iteF ?_⟩
      refine ⟨_, rfl, r, _, rfl, .inr (SqT.of f2), _, _, rfl, rfl, _, rfl, ?_⟩
      rw [hql, (inR _ w1 w6).1]
      refine iteT ⟨_, _, rfl, rfl, _, rfl, ?_⟩
      rw [(inR _ w1 w6).2]
      refine iteF ?_
      refine ⟨_, rfl, r, _, rfl, .inr (SqT.of f2), ?_⟩
      refine ⟨_, rfl, a, _, (0 : Nat), .ref r', rfl, rfl, SqT.of (s2 _ _ g1), atI_nat g3, r', _, rfl, .inr (SqT.of (s2 _ _ g4)), rfl, _, rfl, ?_⟩
      rw [hql, List.length_map, g5]
      refine iteNS rfl ?_
      -- the places of the row
      refine ⟨_, rfl, r, rfl, ⟨_, SqT.of f2⟩, fun D nD => ?_⟩
      refine lcF (L := qs) (F := V.ref) walk_tupM nD (by rw [e3, hrl]; omega) (fun _ => true) (fun _ => .bl true) (fun H2 t => SqT.of (t _ _ f2)) (fun _ => rfl) (fun _ _ H2 R _ kk => kk H2 (Same.refl _)) ?_ ?_
      · intro q hq _ H2 R t kk
        obtain ⟨j, hj, ej⟩ := List.getElem_of_mem hq
        have hj2 : j < (B[i]).length := by rw [← e3]; exact hj
        obtain ⟨q', q1, q2⟩ := e4 j _ (List.getElem?_eq_getElem hj2)
        obtain rfl : q = q' := by
          have : qs[j]? = some q := by rw [List.getElem?_eq_getElem hj, ej]
          rw [this] at q1
          exact Option.some.inj q1
        refine ⟨_, rfl, q, _, _, rfl, t _ _ (s2 _ _ q2), bo.cells _ (List.getElem_mem hi) _ (List.getElem_mem hj2), fun H3 u => kk H3 u⟩
      · intro H2 t hD
        rw [trues] at hD
        refine ⟨D, _, rfl, SqL.of hD, true, by rw [trues_all], iteF ?_⟩
        exact ⟨_, _, _, rfl, s2.trans t⟩
    · rintro σ H1 ⟨v1, v2, v3, rfl, s⟩
      exact k H1 s
/-! ### is_lot, need_lot -/
theorem zip_up : ∀ S : List Nat, S.Pairwise (· < ·) → (List.zipWith (fun x y => match x, y with | .int i, .int j => V.bl (decide (j ≤ i)) | _, _ => V.bl false) (S.map nV) ((S.map nV).drop 1)) = (List.replicate (S.length - 1) false).map V.bl
  | [], _ => rfl
  | [x], _ => rfl
  | x :: y :: r, h => by
    have h1 := List.pairwise_cons.mp h
    have hxy := h1.1 y List.mem_cons_self
    have ih := zip_up (y :: r) h1.2
    have e : decide ((y : Int) ≤ (x : Int)) = false := decide_eq_false (by omega)
    have e2 : (x :: y :: r).length - 1 = ((y :: r).length - 1) + 1 := by simp
    rw [e2, List.replicate_succ]
    show _ = V.bl false :: (List.replicate ((y :: r).length - 1) false).map V.bl
    rw [← ih]
    show V.bl (decide ((y : Int) ≤ (x : Int))) :: _ = _
    rw [e]
    rfl
theorem lotLen {B : Board} (bo : BoardOk B) {S : List Nat} (up : S.Pairwise (· < ·)) (lt : ∀ x ∈ S, x < nB B) : S.length ≤ 12 := by
  have nd : S.Nodup := up.imp fun z => Nat.ne_of_lt z
  have := List.Nodup.length_le_of_subset (l₂ := List.range (nB B)) nd fun x hx => List.mem_range.mpr (lt x hx)
  rw [List.length_range] at this
  have := nB_le bo
  omega
theorem LotOk.len {B : Board} (bo : BoardOk B) {S : List Nat} (h : LotOk B S) : S.length ≤ 12 := lotLen bo h.up h.lt
def sp_is_lot (K : PySem.W.Frag) : Sp := fun vs H Q _ => ∃ a l B S, vs = [.ref a, .ref l] ∧ BoardAt H B a ∧ BoardOk B ∧ H l = some (.tup (S.map nV)) ∧ LotOk B S ∧ ∀ H', Same H H' → Q (.bl true) H'
theorem ok_is_lot {f : Addr} {fd : FuncData} (T : Txt K mg) (d : Dn K mg "is_lot" s_is_lot ["board", "value"] f fd) : FnOk P w K mg base CX0 3 f fd ["board", "value"] (sp_is_lot K) := by
  obtain ⟨f_is_from, fd_is_from, d_is_from⟩ := T.h_is_from
  have g_is_from : FnOk P w K mg base CX0 2 f_is_from fd_is_from ["value", "least", "most"] (sp_is_from K) := ok_is_from T d_is_from
  obtain ⟨f_sides, fd_sides, d_sides⟩ := T.h_sides
  have g_sides : FnOk P w K mg base CX0 1 f_sides fd_sides ["board"] (sp_sides K) := ok_sides T d_sides
  refine d.F.ok sc_is_lot (fun vs H Q E h => ?_) (fun cdv A outer s H vs Q E hr h => ?_)
  · obtain ⟨a, l, B, S, rfl, hb, bo, hl, lo, k⟩ := h
    rfl
  · obtain ⟨a, l, B, S, rfl, hb, bo, hl, lo, k⟩ := h
    have nd := sc_is_lot.nd
    have hu := hu_of hr
    refine ⟨_, (pss_cons (ps_if (PW.pt (pw_or (pt_not (pt_val (pe_callB (id := "isinstance") (kc_isi (K := K)) (by rfl) T.bisinstance (by decide +kernel) (pa_cons (pv 1) (pa_cons (pe_bltn (v := .ty "tuple") (by rfl) T.btuple (by decide +kernel) rfl) pa_nil))))) (pw_or1 (pt_not (pt_val (pe_callB (id := "all") (kc_all (K := K) rfl) (by rfl) T.ball (by decide +kernel) (pa_cons (pe_lc (own := [("one", 5)]) rfl nd (k_piT (K := K) (pv 1)) (blkOk_by (N := ["board", "value", "rows", "a", "b", "one"]) (sc := defScope s_is_lot) (by decide +kernel)) (fun _ _ _ _ _ => pg_name (i := 5) nd rfl (Or.inl rfl)) (fun _ _ _ _ _ => pts_nil) (fun _ _ _ _ _ => (pe_call g_is_from (hr.mono (by decide)) (by rfl) d_is_from.g d_is_from.F.kp d_is_from.b .nil pass0 (pa_cons (pv 5) (pa_cons pe_int (pa_cons (pe_op op_sub (pe_callB (id := "sum") (kc_sumT (K := K) rfl) (by rfl) T.bsum (by decide +kernel) (pa_cons (pe_call g_sides (hr.mono (by decide)) (by rfl) d_sides.g d_sides.F.kp d_sides.b .nil pass0 (pa_cons (pv 0) pa_nil)) pa_nil)) pe_int) pa_nil)))))) pa_nil)))))))
        (pss_one (ps_ret pe_bl))
        pss_nil)
      (pss_cons (ps_if (pt_val (pe_callB (id := "any") (kc_any (K := K) rfl) (by rfl) T.bany (by decide +kernel) (pa_cons (pe_lc (own := [("a", 3), ("b", 4)]) rfl nd (k_piZ (K := K) (by rfl) T.bzip (pa_cons (pv 1) (pa_cons (pe_slice (k_slA (K := K)) (pv 1) (po_some pe_int) po_none) pa_nil))) (blkOk_by (N := ["board", "value", "rows", "a", "b", "one"]) (sc := defScope s_is_lot) (by decide +kernel)) (fun _ _ _ _ _ => (k_tup (K := K) (n := 2) rfl (pgs_cons (pg_name (i := 3) nd rfl (Or.inl rfl)) (pgs_cons (pg_name (i := 4) nd rfl (Or.inl rfl)) pgs_nil)))) (fun _ _ _ _ _ => pts_nil) (fun _ _ _ _ _ => (pe_cmpR op_ge (pv 3) (pv 4) (by rfl)))) pa_nil)))
        (pss_one (ps_ret pe_bl))
        pss_nil)
      (pss_cons (ps_set (i := 2) nd rfl (Or.inl rfl) (pe_callB (id := "len") (kc_len (K := K)) (by rfl) T.blen (by decide +kernel) (pa_cons (pe_lc (own := [("one", 5)]) rfl nd (k_piT (K := K) (pv 1)) (blkOk_by (N := ["board", "value", "rows", "a", "b", "one"]) (sc := defScope s_is_lot) (by decide +kernel)) (fun _ _ _ _ _ => pg_name (i := 5) nd rfl (Or.inl rfl)) (fun _ _ _ _ _ => pts_one (pt_cmpR op_lt (pv 5) (pe_callB (id := "len") (kc_len (K := K)) (by rfl) T.blen (by decide +kernel) (pa_cons (pv 0) pa_nil)) (by rfl))) (fun _ _ _ _ _ => (pv 5))) pa_nil)))
      (pss_one (ps_ret (pe_and (pe_cmpR op_lt (pv 2) (pe_callB (id := "len") (kc_len (K := K)) (by rfl) T.blen (by decide +kernel) (pa_cons (pv 0) pa_nil)) (by rfl)) (pe_one (pe_cmpR op_lt (pe_op op_sub (pe_callB (id := "len") (kc_len (K := K)) (by rfl) T.blen (by decide +kernel) (pa_cons (pv 1) pa_nil)) (pv 2)) (pe_callB (id := "len") (kc_len (K := K)) (by rfl) T.blen (by decide +kernel) (pa_cons (pe_ix (k_ixT (K := K)) (pv 0) pe_int (fun _ _ => rfl)) pa_nil)) (by rfl))))))))), ?_⟩
    have hlen := lo.len bo
    have n12 := nB_le bo
    refine ⟨_, rfl, _, _, _, _, true, rfl, .ty _, .base (.tup hl), kit_ty (by decide +kernel), true, rfl, iteF ?_⟩
    -- all lines
    refine ⟨_, rfl, l, rfl, ⟨_, SqT.of hl⟩, fun D nD => ?_⟩
    refine lcF (L := S) (F := nV) walk_tupM nD (by omega) (fun _ => true) (fun _ => .bl true) (fun H2 t => SqT.of (t _ _ hl)) (fun _ => rfl) (fun _ _ H2 R _ kk => kk H2 (Same.refl _)) ?_ ?_
    · intro x hx _ H2 R t kk
      refine ⟨_, rfl, _, rfl, a, B, rfl, hb.same t, bo, fun H3 p s3 n3 e3 => ?_⟩
      refine ⟨p, [((hB B : Nat) : Int), ((wB B : Nat) : Int)], rfl, SqT.of e3, _, _, rfl, rfl, _, _, _, rfl, .inl ⟨_, rfl⟩, ?_⟩
      have hx2 := lo.lt x hx
      have e : inB 0 ([((hB B : Nat) : Int), ((wB B : Nat) : Int)].sum - 1) (nV x) = true := by
        rw [sum2]
        show (decide ((0 : Int) ≤ (x : Int)) && decide ((x : Int) ≤ (nB B : Int) - 1)) = true
        rw [decide_eq_true (by omega), decide_eq_true (by omega)]; rfl
      show R (.bl (inB 0 ([((hB B : Nat) : Int), ((wB B : Nat) : Int)].sum - 1) (nV x))) H3
      rw [e]
      exact kk H3 s3
    · intro H1 s1 hD
      rw [trues] at hD
      refine ⟨D, _, rfl, SqL.of hD, true, by rw [trues_all], iteF ?_⟩
      have hl1 := s1 _ _ hl
      -- rising
      refine ⟨_, rfl, _, rfl, 1, rfl, ?_⟩
      refine slA_drop (n := 1) rfl hl1 fun H2 t s2 ht => ?_
      have hl2 := s2 _ _ hl1
      refine ⟨l, t, _, _, rfl, .inr ⟨SqT.of hl2, SqT.of ht, fun D2 nD2 => ?_⟩⟩
      refine lcZ (walk_zipT rfl) nD2 (by rw [List.length_map]; omega) (fun x y => match x, y with | .int i, .int j => V.bl (decide (j ≤ i)) | _, _ => V.bl false) (fun H3 s3 => ⟨SqT.of (s3 _ _ hl2), SqT.of (s3 _ _ ht)⟩) (fun _ _ => rfl) ?_ ?_
      · intro m x y hx hy H3 R s3 kk
        obtain ⟨n, _, rfl⟩ := get_nV hx
        have hy' : ((S.drop 1).map nV)[m]? = some y := by rw [List.map_drop]; exact hy
        obtain ⟨n', _, rfl⟩ := get_nV hy'
        exact ⟨_, rfl, _, rfl, _, _, rfl, rfl, kk H3 (Same.refl _)⟩
      · intro H3 s3 hD2
        rw [zip_up S lo.up] at hD2
        refine ⟨D2, _, rfl, SqL.of hD2, false, ?_, iteF ?_⟩
        · rw [List.any_replicate]
          split <;> rfl
        have hl3 := s3 _ _ hl2
        have hb3 := ((hb.same s1).same s2).same s3
        obtain ⟨rs, r1, r2⟩ := hb3.len
        -- how many rows
        refine ⟨_, rfl, l, rfl, ⟨_, SqT.of hl3⟩, fun D3 nD3 => ?_⟩
        refine lcF (L := S) (F := nV) walk_tupM nD3 (by omega) (fun x => decide (x < hB B)) nV (fun H4 t4 => SqT.of (t4 _ _ hl3)) (fun _ => rfl) ?_ ?_ ?_
        · intro x hx H4 R s4 kk
          refine ⟨_, rfl, _, rfl, a, _, rfl, .inr (SqT.of (s4 _ _ r1)), _, _, rfl, rfl, _, rfl, ?_⟩
          have e : decide ((x : Int) < ((rs.map V.ref).length : Int)) = decide (x < hB B) := by
            rw [r2]
            exact decide_eq_decide.mpr (by omega)
          rw [e]
          exact kk H4 (Same.refl _)
        · intro x hx _ H4 R s4 kk
          exact ⟨_, rfl, kk H4 (Same.refl _)⟩
        · intro H4 s4 hD3
          refine ⟨D3, _, rfl, .inl (SqL.of hD3), ?_⟩
          have hb4 := hb3.same s4
          obtain ⟨rs', qs', r', g1, g2, g3, g4, g5⟩ := hb4.row0 bo
          have hl4 := s4 _ _ hl3
          refine ⟨_, rfl, _, rfl, a, _, rfl, .inr (SqT.of g1), _, _, rfl, rfl, true, ?_, iteT ?_⟩
          · have h1 := lo.r
            have : decide ((((S.filter fun x => decide (x < hB B)).map nV).length : Int) < ((rs'.map V.ref).length : Int)) = true := by
              rw [List.length_map, List.length_map, g2]
              exact decide_eq_true (by unfold nR at h1; omega)
            exact congrArg V.bl this
          · refine ⟨_, rfl, l, _, rfl, .inr (SqT.of hl4), _, rfl, _, _, rfl, rfl, ?_⟩
            refine ⟨_, rfl, a, _, (0 : Nat), .ref r', rfl, rfl, SqT.of g1, atI_nat g3, r', _, rfl, .inr (SqT.of g4), _, _, rfl, rfl, ?_⟩
            have h2 := lo.c
            have h3 : nR B S ≤ S.length := List.length_filter_le _ _
            have : decide ((((S.map nV).length : Int) - (((S.filter fun x => decide (x < hB B)).map nV).length : Int)) < ((qs'.map V.ref).length : Int)) = true := by
              rw [List.length_map, List.length_map, List.length_map, g5]
              exact decide_eq_true (by unfold nR at h2 h3; omega)
            exact q_bl this (k H4 (((s1.trans s2).trans s3).trans s4))
def sp_need_lot (K : PySem.W.Frag) : Sp := fun vs H Q _ => ∃ a l B S, vs = [.ref a, .ref l] ∧ BoardAt H B a ∧ BoardOk B ∧ H l = some (.tup (S.map nV)) ∧ LotOk B S ∧ ∀ H', Same H H' → Q .non H'
theorem ok_need_lot {f : Addr} {fd : FuncData} (T : Txt K mg) (d : Dn K mg "need_lot" s_need_lot ["board", "value"] f fd) : FnOk P w K mg base CX0 4 f fd ["board", "value"] (sp_need_lot K) := by
  obtain ⟨f_is_lot, fd_is_lot, d_is_lot⟩ := T.h_is_lot
  have g_is_lot : FnOk P w K mg base CX0 3 f_is_lot fd_is_lot ["board", "value"] (sp_is_lot K) := ok_is_lot T d_is_lot
  refine d.F.ok sc_need_lot (fun vs H Q E h => ?_) (fun cdv A outer s H vs Q E hr h => ?_)
  · obtain ⟨a, l, B, S, rfl, hb, bo, hl, lo, k⟩ := h
    rfl
  · obtain ⟨a, l, B, S, rfl, hb, bo, hl, lo, k⟩ := h
    have nd := sc_need_lot.nd
    have hu := hu_of hr
    refine ⟨_, (pss_one (ps_if (pt_not (pt_val (pe_call g_is_lot (hr.mono (by decide)) (by rfl) d_is_lot.g d_is_lot.F.kp d_is_lot.b .nil pass0 (pa_cons (pv 0) (pa_cons (pv 1) pa_nil)))))
        (pss_one ps_never)
        pss_nil)), ?_⟩
    exact ⟨_, rfl, _, rfl, a, l, B, S, rfl, hb, bo, hl, lo, fun H1 s1 => ⟨true, rfl, iteF (k H1 s1)⟩⟩
end
end K1
namespace K1
open PySem PySem.Spec PyProof.Rows L2
section
variable {P : Program} {w : World} {K : PySem.W.Frag} {mg : Str → Option Value} {base : Heap}
theorem drop_range (B : Board) : ((List.range (nB B)).map nV).drop (hB B) = (List.range' (hB B) (wB B)).map nV := by
  rw [← List.map_drop]
  congr 1
  rw [List.range_eq_range', List.drop_range']
  have : nB B - hB B = wB B := by
    have : nB B = hB B + wB B := rfl
    omega
  rw [this]
  simp
/-! ### left_of, numbers -/
def sp_left_of (K : PySem.W.Frag) : Sp := fun vs H Q _ => ∃ a l B S, vs = [.ref a, .ref l] ∧ BoardAt H B a ∧ BoardOk B ∧ H l = some (.tup (S.map nV)) ∧
  ∀ H' p r c, Same H H' → H p = none → H' p = some (.tup [.ref r, .ref c]) → H' r = some (.tup ((rowsL B S).map nV)) → H' c = some (.tup ((colsL B S).map nV)) → Q (.ref p) H'
theorem ok_left_of {f : Addr} {fd : FuncData} (T : Txt K mg) (d : Dn K mg "left_of" s_left_of ["board", "lot"] f fd) : FnOk P w K mg base CX0 3 f fd ["board", "lot"] (sp_left_of K) := by
  obtain ⟨f_lines_of, fd_lines_of, d_lines_of⟩ := T.h_lines_of
  have g_lines_of : FnOk P w K mg base CX0 2 f_lines_of fd_lines_of ["board"] (sp_lines_of K) := ok_lines_of T d_lines_of
  refine d.F.ok sc_left_of (fun vs H Q E h => ?_) (fun cdv A outer s H vs Q E hr h => ?_)
  · obtain ⟨a, l, B, S, rfl, hb, bo, hl, k⟩ := h
    rfl
  · obtain ⟨a, l, B, S, rfl, hb, bo, hl, k⟩ := h
    have nd := sc_left_of.nd
    have hu := hu_of hr
    refine ⟨_, (pss_cons (ps_set (i := 2) nd rfl (Or.inl rfl) (pe_callTy (T := "tuple") (kc_tuple (K := K)) (by rfl) T.btuple (by decide +kernel) (pa_cons (pe_lc (own := [("one", 3)]) rfl nd (pi_range1 (by rfl) T.brange (pa_cons (pe_callB (id := "len") (kc_len (K := K)) (by rfl) T.blen (by decide +kernel) (pa_cons (pv 0) pa_nil)) pa_nil)) (blkOk_by (N := ["board", "lot", "rows", "one"]) (sc := defScope s_left_of) (by decide +kernel)) (fun _ _ _ _ _ => pg_name (i := 3) nd rfl (Or.inl rfl)) (fun _ _ _ _ _ => pts_one (pt_cmpR (k_notIn (K := K)) (pv 3) (pv 1) (by rfl))) (fun _ _ _ _ _ => (pv 3))) pa_nil)))
      (pss_one (ps_ret (pe_tup (pa_cons (pv 2) (pa_cons (pe_callTy (T := "tuple") (kc_tuple (K := K)) (by rfl) T.btuple (by decide +kernel) (pa_cons (pe_lc (own := [("one", 3)]) rfl nd (k_piT (K := K) (pe_slice (k_slA (K := K)) (pe_call g_lines_of (hr.mono (by decide)) (by rfl) d_lines_of.g d_lines_of.F.kp d_lines_of.b .nil pass0 (pa_cons (pv 0) pa_nil)) (po_some (pe_callB (id := "len") (kc_len (K := K)) (by rfl) T.blen (by decide +kernel) (pa_cons (pv 0) pa_nil))) po_none)) (blkOk_by (N := ["board", "lot", "rows", "one"]) (sc := defScope s_left_of) (by decide +kernel)) (fun _ _ _ _ _ => pg_name (i := 3) nd rfl (Or.inl rfl)) (fun _ _ _ _ _ => pts_one (pt_cmpR (k_notIn (K := K)) (pv 3) (pv 1) (by rfl))) (fun _ _ _ _ _ => (pv 3))) pa_nil)) pa_nil)))))), ?_⟩
    have n12 := nB_le bo
    have b6 := bo.h6
    have w6 := bo.w6
    obtain ⟨rs, h1, h2⟩ := hb.len
    refine ⟨_, rfl, a, _, rfl, .inr (SqT.of h1), (hB B : Int), by rw [h2], by omega, by omega, fun D nD => ?_⟩
    refine lcF (L := List.range (hB B)) (F := nV) walk_range0 nD (by rw [List.length_range]; omega) (fun x => decide (x ∉ S)) nV (fun _ _ => trivial) (fun _ => rfl) ?_ ?_ ?_
    · intro x hx H2 R t kk
      refine ⟨_, rfl, _, rfl, l, _, rfl, .inr (SqT.of (t _ _ hl)), rfl, flat_nVs S, _, rfl, ?_⟩
      rw [inV_nV]
      have e : (!decide (x ∈ S)) = decide (x ∉ S) := by simp
      have : R (decide (x ∉ S)) H2 := kk H2 (Same.refl _)
      rw [← e] at this
      exact this
    · intro x hx _ H2 R t kk
      exact ⟨_, rfl, kk H2 (Same.refl _)⟩
    · intro H1 s1 hD
      refine ⟨D, _, rfl, .inl ⟨SqL.of hD, fun r hr1 => ?_⟩⟩
      have s2 : Same H (upd H1 r (.tup ((rowsL B S).map nV))) := same_upd s1 (s1.free hr1)
      have s2' : Same H1 (upd H1 r (.tup ((rowsL B S).map nV))) := same_new hr1
      refine ⟨_, rfl, ?_⟩
      refine ⟨_, rfl, a, B, rfl, hb.same s2, bo, fun H3 p s3 n3 e3 => ?_⟩
      refine ⟨_, rfl, a, _, rfl, .inr (SqT.of ((s2.trans s3) _ _ h1)), _, rfl, ?_⟩
      refine slA_drop (n := hB B) (by rw [h2]) e3 fun H4 t s4 ht => ?_
      rw [drop_range] at ht
      refine ⟨t, rfl, ⟨_, SqT.of ht⟩, fun D2 nD2 => ?_⟩
      have hl4 := s4 _ _ (s3 _ _ (s2 _ _ hl))
      refine lcF (L := List.range' (hB B) (wB B)) (F := nV) walk_tupM nD2 (by rw [List.length_range']; omega) (fun x => decide (x ∉ S)) nV (fun H5 s5 => SqT.of (s5 _ _ ht)) (fun _ => rfl) ?_ ?_ ?_
      · intro x hx H2 R t kk
        refine ⟨_, rfl, _, rfl, l, _, rfl, .inr (SqT.of (t _ _ hl4)), rfl, flat_nVs S, _, rfl, ?_⟩
        rw [inV_nV]
        have e : (!decide (x ∈ S)) = decide (x ∉ S) := by simp
        have : R (decide (x ∉ S)) H2 := kk H2 (Same.refl _)
        rw [← e] at this
        exact this
      · intro x hx _ H2 R t kk
        exact ⟨_, rfl, kk H2 (Same.refl _)⟩
      · intro H5 s5 hD2
        refine ⟨D2, _, rfl, .inl ⟨SqL.of hD2, fun c hc1 => ?_⟩⟩
        refine ⟨by show 2 ≤ sizeLine; decide, fun p2 hp2 => ?_⟩
        have t5 : Same (upd H1 r (.tup ((rowsL B S).map nV))) H5 := (s3.trans s4).trans s5
        have t6 : Same (upd H1 r (.tup ((rowsL B S).map nV))) (upd H5 c (.tup ((colsL B S).map nV))) := same_upd t5 (t5.free hc1)
        have t7 := s2.trans t6
        refine k _ p2 r c (same_upd t7 (t7.free hp2)) (t7.free hp2) upd_same ?_ ?_
        · exact same_new hp2 _ _ (t6 _ _ upd_same)
        · exact same_new hp2 _ _ upd_same
def sp_numbers (K : PySem.W.Frag) : Sp := fun vs H Q _ => ∃ a l B S n, vs = [.ref a, .ref l, nV n] ∧ BoardAt H B a ∧ BoardOk B ∧ H l = some (.tup (S.map nV)) ∧ n < nB B ∧
  ∀ H' p, Same H H' → H p = none → H' p = some (.lst ((nums B S n).map V.int)) → Q (.ref p) H'
theorem rows_len (B : Board) (bo : BoardOk B) (S : List Nat) : (rowsL B S).length ≤ 6 := by
  have h1 : (rowsL B S).length ≤ (List.range (hB B)).length := List.length_filter_le _ _
  rw [List.length_range] at h1
  have := bo.h6
  omega
theorem cols_len (B : Board) (bo : BoardOk B) (S : List Nat) : (colsL B S).length ≤ 6 := by
  have h1 : (colsL B S).length ≤ (List.range' (hB B) (wB B)).length := List.length_filter_le _ _
  rw [List.length_range'] at h1
  have := bo.w6
  omega
theorem ok_numbers {f : Addr} {fd : FuncData} (T : Txt K mg) (d : Dn K mg "numbers" s_numbers ["board", "lot", "line"] f fd) : FnOk P w K mg base CX0 4 f fd ["board", "lot", "line"] (sp_numbers K) := by
  obtain ⟨f_left_of, fd_left_of, d_left_of⟩ := T.h_left_of
  have g_left_of : FnOk P w K mg base CX0 3 f_left_of fd_left_of ["board", "lot"] (sp_left_of K) := ok_left_of T d_left_of
  refine d.F.ok sc_numbers (fun vs H Q E h => ?_) (fun cdv A outer s H vs Q E hr h => ?_)
  · obtain ⟨a, l, B, S, n, rfl, hb, bo, hl, hn, k⟩ := h
    rfl
  · obtain ⟨a, l, B, S, n, rfl, hb, bo, hl, hn, k⟩ := h
    have nd := sc_numbers.nd
    have hu := hu_of hr
    refine ⟨_, (pss_cons (ps_asg (pe_call g_left_of (hr.mono (by decide)) (by rfl) d_left_of.g d_left_of.F.kp d_left_of.b .nil pass0 (pa_cons (pv 0) (pa_cons (pv 1) pa_nil))) (k_tup (K := K) (n := 2) rfl (pgs_cons (pg_name (i := 3) nd rfl (Or.inl rfl)) (pgs_cons (pg_name (i := 4) nd rfl (Or.inl rfl)) pgs_nil))))
      (pss_cons (ps_if (pt_cmpR op_lt (pv 2) (pe_callB (id := "len") (kc_len (K := K)) (by rfl) T.blen (by decide +kernel) (pa_cons (pv 0) pa_nil)) (by rfl))
        (pss_one (ps_ret (pe_lc (own := [("column", 6)]) rfl nd (k_piT (K := K) (pv 4)) (blkOk_by (N := ["board", "lot", "line", "rows", "columns", "row", "column"]) (sc := defScope s_numbers) (by decide +kernel)) (fun _ _ _ _ _ => pg_name (i := 6) nd rfl (Or.inl rfl)) (fun _ _ _ _ _ => pts_nil) (fun _ _ _ _ _ => (pe_ix (k_ixT (K := K)) (pe_ix (k_ixT (K := K)) (pe_ix (k_ixT (K := K)) (pv 0) (pv 2) (fun _ _ => rfl)) (pe_op op_sub (pv 6) (pe_callB (id := "len") (kc_len (K := K)) (by rfl) T.blen (by decide +kernel) (pa_cons (pv 0) pa_nil))) (fun _ _ => rfl)) pe_int (fun _ _ => rfl))))))
        pss_nil)
      (pss_one (ps_ret (pe_lc (own := [("row", 5)]) rfl nd (k_piT (K := K) (pv 3)) (blkOk_by (N := ["board", "lot", "line", "rows", "columns", "row", "column"]) (sc := defScope s_numbers) (by decide +kernel)) (fun _ _ _ _ _ => pg_name (i := 5) nd rfl (Or.inl rfl)) (fun _ _ _ _ _ => pts_nil) (fun _ _ _ _ _ => (pe_ix (k_ixT (K := K)) (pe_ix (k_ixT (K := K)) (pe_ix (k_ixT (K := K)) (pv 0) (pv 5) (fun _ _ => rfl)) (pe_op op_sub (pv 2) (pe_callB (id := "len") (kc_len (K := K)) (by rfl) T.blen (by decide +kernel) (pa_cons (pv 0) pa_nil))) (fun _ _ => rfl)) pe_int (fun _ _ => rfl)))))))), ?_⟩
    have n1 : nB B = hB B + wB B := rfl
    refine ⟨_, rfl, _, rfl, a, l, B, S, rfl, hb, bo, hl, fun H1 p r c s1 np hp hr1 hc1 => ?_⟩
    refine ⟨p, _, rfl, SqT.of hp, rfl, _, _, rfl, _, _, rfl, rfl, ?_⟩
    have hb1 := hb.same s1
    obtain ⟨rs, h1, h2⟩ := hb1.len
    refine ⟨_, rfl, _, rfl, a, _, rfl, .inr (SqT.of h1), _, _, rfl, rfl, _, rfl, ?_⟩
    rw [h2]
    by_cases q : n < hB B
    · rw [decide_eq_true (show (n : Int) < (hB B : Int) by omega)]
      refine iteT ⟨_, rfl, c, rfl, ⟨_, SqT.of hc1⟩, fun D nD => ?_⟩
      refine lcF (L := colsL B S) (F := nV) walk_tupM nD (by have := cols_len B bo S; omega) (fun _ => true) (fun x => .int (cA B n (x - hB B))) (fun H2 t => SqT.of (t _ _ hc1)) (fun _ => rfl) (fun _ _ H2 R _ kk => kk H2 (Same.refl _)) ?_ ?_
      · intro x hx _ H2 R t kk
        have hx2 := (mem_colsL.mp hx).1
        obtain ⟨rs2, qs, r2, q2, g1, g2, g3, g4, g5⟩ := (hb1.same t).cell bo (i := n) (j := x - hB B) q (by omega)
        obtain ⟨rs3, f1, f2⟩ := (hb1.same t).len
        refine ⟨_, rfl, _, rfl, a, _, (n : Int), .ref r2, rfl, rfl, SqT.of g1, atI_nat g2, ?_⟩
        refine ⟨_, rfl, _, rfl, a, _, rfl, .inr (SqT.of f1), _, _, rfl, rfl, ?_⟩
        have e : (x : Int) - ((rs3.map V.ref).length : Int) = ((x - hB B : Nat) : Int) := by rw [f2]; omega
        refine ⟨r2, _, _, .ref q2, rfl, rfl, SqT.of g3, by rw [e]; exact atI_nat g4, ?_⟩
        exact ⟨q2, _, (0 : Nat), .int (cA B n (x - hB B)), rfl, rfl, SqT.of g5, atI_nat rfl, kk H2 (Same.refl _)⟩
      · intro H2 s2 hD
        refine k H2 D (s1.trans s2) (s1.free nD) ?_
        rw [hD, filter_yes]
        unfold nums
        rw [if_pos q, List.map_map]
        rfl
    · rw [decide_eq_false (show ¬ (n : Int) < (hB B : Int) by omega)]
      refine iteF ⟨_, rfl, r, rfl, ⟨_, SqT.of hr1⟩, fun D nD => ?_⟩
      refine lcF (L := rowsL B S) (F := nV) walk_tupM nD (by have := rows_len B bo S; omega) (fun _ => true) (fun x => .int (cB B x (n - hB B))) (fun H2 t => SqT.of (t _ _ hr1)) (fun _ => rfl) (fun _ _ H2 R _ kk => kk H2 (Same.refl _)) ?_ ?_
      · intro x hx _ H2 R t kk
        have hx2 := (mem_rowsL.mp hx).1
        obtain ⟨rs2, qs, r2, q2, g1, g2, g3, g4, g5⟩ := (hb1.same t).cell bo (i := x) (j := n - hB B) hx2 (by omega)
        obtain ⟨rs3, f1, f2⟩ := (hb1.same t).len
        refine ⟨_, rfl, _, rfl, a, _, (x : Int), .ref r2, rfl, rfl, SqT.of g1, atI_nat g2, ?_⟩
        refine ⟨_, rfl, _, rfl, a, _, rfl, .inr (SqT.of f1), _, _, rfl, rfl, ?_⟩
        have e : (n : Int) - ((rs3.map V.ref).length : Int) = ((n - hB B : Nat) : Int) := by rw [f2]; omega
        refine ⟨r2, _, _, .ref q2, rfl, rfl, SqT.of g3, by rw [e]; exact atI_nat g4, ?_⟩
        exact ⟨q2, _, (1 : Nat), .int (cB B x (n - hB B)), rfl, rfl, SqT.of g5, atI_nat rfl, kk H2 (Same.refl _)⟩
      · intro H2 s2 hD
        refine k H2 D (s1.trans s2) (s1.free nD) ?_
        rw [hD, filter_yes]
        unfold nums
        rw [if_neg q, List.map_map]
        rfl
/-! ### same_side, is_greater -/
def sp_same_side (K : PySem.W.Frag) : Sp := fun vs H Q _ => ∃ a B n m, vs = [.ref a, nV n, nV m] ∧ BoardAt H B a ∧ Q (.bl (decide (n < hB B ↔ m < hB B))) H
theorem ok_same_side {f : Addr} {fd : FuncData} (T : Txt K mg) (d : Dn K mg "same_side" s_same_side ["board", "one", "other"] f fd) : FnOk P w K mg base CX0 1 f fd ["board", "one", "other"] (sp_same_side K) := by
  refine d.F.ok sc_same_side (fun vs H Q E h => ?_) (fun cdv A outer s H vs Q E hr h => ?_)
  · obtain ⟨a, B, n, m, rfl, hb, k⟩ := h
    rfl
  · obtain ⟨a, B, n, m, rfl, hb, k⟩ := h
    have nd := sc_same_side.nd
    have hu := hu_of hr
    refine ⟨_, (pss_one (ps_ret (pe_cmpR op_eq (pe_cmpR op_lt (pv 1) (pe_callB (id := "len") (kc_len (K := K)) (by rfl) T.blen (by decide +kernel) (pa_cons (pv 0) pa_nil)) (by rfl)) (pe_cmpR op_lt (pv 2) (pe_callB (id := "len") (kc_len (K := K)) (by rfl) T.blen (by decide +kernel) (pa_cons (pv 0) pa_nil)) (by rfl)) (by rfl)))), ?_⟩
    obtain ⟨rs, h1, h2⟩ := hb.len
    refine ⟨_, rfl, _, rfl, a, _, rfl, .inr (SqT.of h1), _, _, rfl, rfl, ?_⟩
    refine ⟨_, rfl, _, rfl, a, _, rfl, .inr (SqT.of h1), _, _, rfl, rfl, rfl, ?_⟩
    rw [h2]
    have e : decide (V.bl (decide ((n : Int) < (hB B : Int))) = V.bl (decide ((m : Int) < (hB B : Int)))) = decide (n < hB B ↔ m < hB B) := by
      refine decide_eq_decide.mpr ⟨fun z => ?_, fun z => ?_⟩
      · have := decide_eq_decide.mp (V.bl.inj z)
        omega
      · rw [decide_eq_decide.mpr (show ((n : Int) < (hB B : Int)) ↔ ((m : Int) < (hB B : Int)) by omega)]
    show Q (.bl (decide (V.bl (decide ((n : Int) < (hB B : Int))) = V.bl (decide ((m : Int) < (hB B : Int)))))) H
    rw [e]
    exact k
def sp_is_greater (K : PySem.W.Frag) : Sp := fun vs H Q _ => ∃ a l B S n m, vs = [.ref a, .ref l, nV n, nV m] ∧ BoardAt H B a ∧ BoardOk B ∧ H l = some (.tup (S.map nV)) ∧ n < nB B ∧ m < nB B ∧
  ∀ H', Same H H' → Q (.bl (gtB B S n m)) H'
theorem nums_len (B : Board) (bo : BoardOk B) (S : List Nat) (n : Nat) : (nums B S n).length ≤ 6 := by
  unfold nums
  split
  · rw [List.length_map]; exact cols_len B bo S
  · rw [List.length_map]; exact rows_len B bo S
theorem zip_gt (xs ys : List Int) : List.zipWith (fun x y => match x, y with | .int i, .int j => V.bl (decide (i < j)) | _, _ => V.bl false) (xs.map V.int) (ys.map V.int) = ((xs.zip ys).map fun p => decide (p.1 < p.2)).map V.bl := by
  rw [List.map_map]
  induction xs generalizing ys with
  | nil => rfl
  | cons x r ih =>
    cases ys with
    | nil => rfl
    | cons y t =>
      rw [List.map_cons, List.map_cons, List.zipWith_cons_cons, ih]
      rfl
theorem ok_is_greater {f : Addr} {fd : FuncData} (T : Txt K mg) (d : Dn K mg "is_greater" s_is_greater ["board", "lot", "line", "other"] f fd) : FnOk P w K mg base CX0 5 f fd ["board", "lot", "line", "other"] (sp_is_greater K) := by
  obtain ⟨f_same_side, fd_same_side, d_same_side⟩ := T.h_same_side
  have g_same_side : FnOk P w K mg base CX0 1 f_same_side fd_same_side ["board", "one", "other"] (sp_same_side K) := ok_same_side T d_same_side
  obtain ⟨f_numbers, fd_numbers, d_numbers⟩ := T.h_numbers
  have g_numbers : FnOk P w K mg base CX0 4 f_numbers fd_numbers ["board", "lot", "line"] (sp_numbers K) := ok_numbers T d_numbers
  refine d.F.ok sc_is_greater (fun vs H Q E h => ?_) (fun cdv A outer s H vs Q E hr h => ?_)
  · obtain ⟨a, l, B, S, n, m, rfl, hb, bo, hl, hn, hm, k⟩ := h
    rfl
  · obtain ⟨a, l, B, S, n, m, rfl, hb, bo, hl, hn, hm, k⟩ := h
    have nd := sc_is_greater.nd
    have hu := hu_of hr
    refine ⟨_, (pss_cons (ps_if (pt_not (pt_val (pe_call g_same_side (hr.mono (by decide)) (by rfl) d_same_side.g d_same_side.F.kp d_same_side.b .nil pass0 (pa_cons (pv 0) (pa_cons (pv 2) (pa_cons (pv 3) pa_nil))))))
        (pss_one (ps_ret pe_bl))
        pss_nil)
      (pss_one (ps_ret (pe_callB (id := "all") (kc_all (K := K) rfl) (by rfl) T.ball (by decide +kernel) (pa_cons (pe_lc (own := [("a", 4), ("b", 5)]) rfl nd (k_piZ (K := K) (by rfl) T.bzip (pa_cons (pe_call g_numbers (hr.mono (by decide)) (by rfl) d_numbers.g d_numbers.F.kp d_numbers.b .nil pass0 (pa_cons (pv 0) (pa_cons (pv 1) (pa_cons (pv 2) pa_nil)))) (pa_cons (pe_call g_numbers (hr.mono (by decide)) (by rfl) d_numbers.g d_numbers.F.kp d_numbers.b .nil pass0 (pa_cons (pv 0) (pa_cons (pv 1) (pa_cons (pv 3) pa_nil)))) pa_nil))) (blkOk_by (N := ["board", "lot", "line", "other", "a", "b"]) (sc := defScope s_is_greater) (by decide +kernel)) (fun _ _ _ _ _ => (k_tup (K := K) (n := 2) rfl (pgs_cons (pg_name (i := 4) nd rfl (Or.inl rfl)) (pgs_cons (pg_name (i := 5) nd rfl (Or.inl rfl)) pgs_nil)))) (fun _ _ _ _ _ => pts_nil) (fun _ _ _ _ _ => (pe_cmpR op_gt (pv 5) (pv 4) (by rfl)))) pa_nil))))), ?_⟩
    refine ⟨_, rfl, _, rfl, _, rfl, a, B, n, m, rfl, hb, _, rfl, ?_⟩
    by_cases q : n < hB B ↔ m < hB B
    · rw [decide_eq_true q]
      refine iteF ?_
      refine ⟨_, rfl, _, rfl, _, rfl, a, l, B, S, n, rfl, hb, bo, hl, hn, fun H1 p s1 np hp => ?_⟩
      refine ⟨_, rfl, _, rfl, _, rfl, a, l, B, S, m, rfl, hb.same s1, bo, s1 _ _ hl, hm, fun H2 p2 s2 np2 hp2 => ?_⟩
      have hp' := s2 _ _ hp
      refine ⟨p, p2, _, _, rfl, .inl ⟨SqL.of hp', SqL.of hp2, fun D nD => ?_⟩⟩
      refine lcZ (walk_zip rfl) nD (by rw [List.length_map]; have := nums_len B bo S n; omega) (fun x y => match x, y with | .int i, .int j => V.bl (decide (i < j)) | _, _ => V.bl false) (fun H3 s3 => ⟨SqL.of (s3 _ _ hp'), SqL.of (s3 _ _ hp2)⟩) (fun _ _ => rfl) ?_ ?_
      · intro i x y hx hy H3 R s3 kk
        obtain ⟨x', rfl⟩ : ∃ i, x = V.int i := by
          rw [List.getElem?_map] at hx
          obtain ⟨z, _, e⟩ := Option.map_eq_some_iff.mp hx
          exact ⟨z, e.symm⟩
        obtain ⟨y', rfl⟩ : ∃ i, y = V.int i := by
          rw [List.getElem?_map] at hy
          obtain ⟨z, _, e⟩ := Option.map_eq_some_iff.mp hy
          exact ⟨z, e.symm⟩
        exact ⟨_, rfl, _, rfl, _, _, rfl, rfl, kk H3 (Same.refl _)⟩
      · intro H3 s3 hD
        rw [zip_gt] at hD
        refine ⟨D, _, rfl, SqL.of hD, ?_⟩
        rw [nums_all q]
        exact k H3 ((s1.trans s2).trans s3)
    · rw [decide_eq_false q]
      refine iteT ?_
      have e : gtB B S n m = false := by
        cases h : gtB B S n m with
        | false => rfl
        | true => exact absurd (gtB_iff.mp h).1 q
      have := k H (Same.refl _)
      rw [e] at this
      exact this
end
end K1
namespace K1
open PySem PySem.Spec PyProof.Rows L2
/-! ### data -/
def dI (S : List Nat) : List PyData := S.map fun n : Nat => PyData.int (n : Int)
theorem dpAll_nV {K : PySem.W.Frag} {H : Hp} : ∀ S : List Nat, DpAll K H (S.map nV) (dI S)
  | [] => .nil
  | x :: r => .cons (.int _) (dpAll_nV r)
theorem canLay_dI : ∀ S : List Nat, PyData.canLayAll0 (dI S) = true
  | [] => by simp [dI, PyData.canLayAll0]
  | x :: r => by
    have := canLay_dI r
    simp only [dI, List.map_cons, PyData.canLayAll0, PyData.canLay0, Bool.true_and] at this ⊢
    exact this
theorem depth_dI : ∀ S : List Nat, PyData.depthAll (dI S) = 0
  | [] => by simp [dI, PyData.depthAll]
  | x :: r => by
    have := depth_dI r
    simp only [dI, List.map_cons, PyData.depthAll, PyData.depth] at this ⊢
    omega
theorem shaped_tup (S : List Nat) : SeqAt.shaped (.tuple (dI S)) = true := by
  unfold SeqAt.shaped
  rw [PyData.canLay0, canLay_dI, PyData.depth, depth_dI]
  rfl
theorem shaped_lst (S : List Nat) : SeqAt.shaped (.list (dI S)) = true := by
  unfold SeqAt.shaped
  rw [PyData.canLay0, canLay_dI, PyData.depth, depth_dI]
  rfl
theorem shaped_int (i : Int) : SeqAt.shaped (.int i) = true := by
  unfold SeqAt.shaped
  rw [PyData.canLay0, PyData.depth]
  rfl
theorem eqvAll_dI : ∀ S T : List Nat, PyData.eqvAll (dI S) (dI T) = decide (S = T)
  | [], [] => by simp [dI, PyData.eqvAll]
  | [], _ :: _ => by simp [dI, PyData.eqvAll]
  | _ :: _, [] => by simp [dI, PyData.eqvAll]
  | x :: S, y :: T => by
    have ih := eqvAll_dI S T
    have e1 : dI (x :: S) = PyData.int (x : Int) :: dI S := rfl
    have e2 : dI (y :: T) = PyData.int (y : Int) :: dI T := rfl
    rw [e1, e2, PyData.eqvAll, PyData.eqv, ih]
    by_cases h : x = y
    · subst h
      simp
    · have : ((x : Int) == (y : Int)) = false := by
        rw [beq_eq_false_iff_ne]; omega
      rw [this]
      simp [h]
theorem eqv_tup (S T : List Nat) : PyData.eqv (.tuple (dI S)) (.tuple (dI T)) = decide (S = T) := by rw [PyData.eqv, eqvAll_dI]
theorem eqv_lst (S T : List Nat) : PyData.eqv (.list (dI S)) (.list (dI T)) = decide (S = T) := by rw [PyData.eqv, eqvAll_dI]
/-! ### mathematics of the walks -/
theorem can_any (B : Board) (S : List Nat) (n : Nat) : (((List.range (nB B)).filter fun x => decide (x ∉ S ∧ x ≠ n)).map fun x => gtB B S n x).any id = cfB B S n := by
  rw [Bool.eq_iff_iff, cfB_iff, List.any_map, List.any_eq_true]
  constructor
  · rintro ⟨x, hx, h⟩
    obtain ⟨h1, h2⟩ := List.mem_filter.mp hx
    have h2 := of_decide_eq_true h2
    exact ⟨x, List.mem_range.mp h1, h2.1, h2.2, gtB_iff.mp h⟩
  · rintro ⟨x, h1, h2, h3, h4⟩
    exact ⟨x, List.mem_filter.mpr ⟨List.mem_range.mpr h1, decide_eq_true ⟨h2, h3⟩⟩, gtB_iff.mpr h4⟩
theorem run_stop {B : Board} {xs : List V} {i : Nat} {s S : List Nat} {x : V} (e : xs.take i = s.map nV) (hs : Strk B s S) (hx : xs[i]? = some x) (bad : ∀ l, x = nV l → ¬ (l < nB B ∧ l ∉ S ∧ cf B S l)) :
    ¬ ∃ s S, xs = s.map nV ∧ Strk B s S := by
  rintro ⟨t, U, e2, ht⟩
  have e3 : t.take i = s := nVs_inj (by rw [List.map_take, ← e2, e])
  obtain ⟨l, h1, h2⟩ := get_nV (by rw [← e2]; exact hx)
  obtain ⟨hlt, hl⟩ := List.getElem?_eq_some_iff.mp h1
  have e4 : t = (t.take i ++ [l]) ++ t.drop (i + 1) := by
    rw [← hl, List.append_assoc, List.singleton_append, ← List.drop_eq_getElem_cons hlt, List.take_append_drop]
  obtain ⟨T, hT⟩ := ht.pre _ _ e4
  rw [e3] at hT
  obtain ⟨S', a, b, c, d, _⟩ := hT.snoc_inv rfl
  have := a.fn hs
  subst this
  exact bad l h2 ⟨b, c, d⟩
open Classical in
noncomputable def comB (B : Board) (W : List Nat) : Bool := decide (Comes B W)
theorem comB_iff {B : Board} {W : List Nat} : comB B W = true ↔ Comes B W := by unfold comB; simp
/-- what closure gives -/
structure Clo (B : Board) (W s C : List Nat) : Prop where
  strk : Strk B s C
  sub : ∀ x ∈ C, x ∈ W
  stop : ∀ l ∈ W, l ∉ C → ¬ cf B C l
theorem Clo.reach {B : Board} {W s C : List Nat} (bo : BoardOk B) (c : Clo B W s C) (up : W.Pairwise (· < ·)) : s.length = W.length ↔ Comes B W := by
  have back : C.length = W.length → C = W := fun h => by
    refine sorted_eq c.strk.rising up fun x => ⟨fun hx => c.sub x hx, fun hx => ?_⟩
    refine Classical.byContradiction fun q => ?_
    have := List.Nodup.length_le_of_subset (l₂ := W) (List.nodup_cons.mpr ⟨q, c.strk.nodup⟩) fun y hy => by
      rcases List.mem_cons.mp hy with rfl | hy
      · exact hx
      · exact c.sub y hy
    rw [List.length_cons] at this
    omega
  constructor
  · intro h
    rw [← back (by rw [← c.strk.len]; exact h)]
    exact ⟨s, c.strk⟩
  · rintro ⟨t, k⟩
    have sub := greatest bo c.strk c.stop k fun x hx => hx
    have e : W = C := sorted_eq up c.strk.rising fun x => ⟨fun hx => sub x hx, fun hx => c.sub x hx⟩
    rw [c.strk.len, ← e]
theorem Clo.eq {B : Board} {W s C : List Nat} (bo : BoardOk B) (c : Clo B W s C) (up : W.Pairwise (· < ·)) (h : s.length = W.length) : C = W := by
  refine sorted_eq c.strk.rising up fun x => ⟨fun hx => c.sub x hx, fun hx => ?_⟩
  refine Classical.byContradiction fun q => ?_
  have := List.Nodup.length_le_of_subset (l₂ := W) (List.nodup_cons.mpr ⟨q, c.strk.nodup⟩) fun y hy => by
    rcases List.mem_cons.mp hy with rfl | hy
    · exact hx
    · exact c.sub y hy
  rw [List.length_cons] at this
  have := c.strk.len
  omega
theorem Clo.one {B : Board} {W s C t D : List Nat} (bo : BoardOk B) (c : Clo B W s C) (d : Clo B W t D) : C = D :=
  sorted_eq c.strk.rising d.strk.rising fun x => ⟨greatest bo d.strk d.stop c.strk c.sub x, greatest bo c.strk c.stop d.strk d.sub x⟩
theorem sorted_ints {S : List Nat} (up : S.Pairwise (· < ·)) {xs : List Nat} (p : xs.Perm S) {ns : List Int} (pm : ns.Perm (xs.map fun n : Nat => (n : Int))) (sr : ns.Pairwise (· ≤ ·)) : ns.map V.int = S.map nV := by
  have := sortedI (ys := []) up (pm.trans (p.map _)) sr
  rw [this, List.map_map]
  rfl
section
variable {P : Program} {w : World} {K : PySem.W.Frag} {mg : Str → Option Value} {base : Heap}
/-! ### can_fall, with_line -/
def sp_can_fall (K : PySem.W.Frag) : Sp := fun vs H Q _ => ∃ a l B S n, vs = [.ref a, .ref l, nV n] ∧ BoardAt H B a ∧ BoardOk B ∧ H l = some (.tup (S.map nV)) ∧ n < nB B ∧ S.length ≤ 100 ∧
  ∀ H', Same H H' → Q (.bl (cfB B S n)) H'
theorem ok_can_fall {f : Addr} {fd : FuncData} (T : Txt K mg) (d : Dn K mg "can_fall" s_can_fall ["board", "lot", "line"] f fd) : FnOk P w K mg base CX0 6 f fd ["board", "lot", "line"] (sp_can_fall K) := by
  obtain ⟨f_lines_of, fd_lines_of, d_lines_of⟩ := T.h_lines_of
  have g_lines_of : FnOk P w K mg base CX0 2 f_lines_of fd_lines_of ["board"] (sp_lines_of K) := ok_lines_of T d_lines_of
  obtain ⟨f_is_greater, fd_is_greater, d_is_greater⟩ := T.h_is_greater
  have g_is_greater : FnOk P w K mg base CX0 5 f_is_greater fd_is_greater ["board", "lot", "line", "other"] (sp_is_greater K) := ok_is_greater T d_is_greater
  refine d.F.ok sc_can_fall (fun vs H Q E h => ?_) (fun cdv A outer s H vs Q E hr h => ?_)
  · obtain ⟨a, l, B, S, n, rfl, hb, bo, hl, hn, hlen, k⟩ := h
    rfl
  · obtain ⟨a, l, B, S, n, rfl, hb, bo, hl, hn, hlen, k⟩ := h
    have nd := sc_can_fall.nd
    have hu := hu_of hr
    refine ⟨_, (pss_one (ps_ret (pe_callB (id := "any") (kc_any (K := K) rfl) (by rfl) T.bany (by decide +kernel) (pa_cons (pe_lc (own := [("other", 3)]) rfl nd (k_piT (K := K) (pe_call g_lines_of (hr.mono (by decide)) (by rfl) d_lines_of.g d_lines_of.F.kp d_lines_of.b .nil pass0 (pa_cons (pv 0) pa_nil))) (blkOk_by (N := ["board", "lot", "line", "other"]) (sc := defScope s_can_fall) (by decide +kernel)) (fun _ _ _ _ _ => pg_name (i := 3) nd rfl (Or.inl rfl)) (fun _ _ _ _ _ => pts_one (pt_cmpR (k_notIn (K := K)) (pv 3) (pe_tup (k_star (K := K) (pv 1) (pa_cons (pv 2) pa_nil))) (by rfl))) (fun _ _ _ _ _ => (pe_call g_is_greater (hr.mono (by decide)) (by rfl) d_is_greater.g d_is_greater.F.kp d_is_greater.b .nil pass0 (pa_cons (pv 0) (pa_cons (pv 1) (pa_cons (pv 2) (pa_cons (pv 3) pa_nil))))))) pa_nil)))), ?_⟩
    have n12 := nB_le bo
    refine ⟨_, rfl, a, B, rfl, hb, bo, fun H1 p s1 np hp => ⟨p, rfl, ⟨_, SqT.of hp⟩, fun D nD => ?_⟩⟩
    have hl1 := s1 _ _ hl
    have hb1 := hb.same s1
    refine lcF (L := List.range (nB B)) (F := nV) walk_tupM nD (by rw [List.length_range]; omega) (fun x => decide (x ∉ S ∧ x ≠ n)) (fun x => .bl (gtB B S n x)) (fun H2 t => SqT.of (t _ _ hp)) (fun _ => rfl) ?_ ?_ ?_
    · intro x hx H2 R t kk
      refine ⟨_, rfl, _, rfl, l, _, rfl, .inl (SqT.of (t _ _ hl1)), _, rfl, ?_⟩
      refine ⟨?_, fun q hq => ?_⟩
      · rw [List.length_append, List.length_map]
        exact len_small (by simp; omega)
      refine ⟨q, _, rfl, .inr (SqT.of upd_same), rfl, ?_, _, rfl, ?_⟩
      · rw [List.all_append, flat_nVs]; rfl
      have e0 : S.map nV ++ [nV n] = (S ++ [n]).map nV := by rw [List.map_append]; rfl
      rw [e0, inV_nV]
      have e : (!decide (x ∈ S ++ [n])) = decide (x ∉ S ∧ x ≠ n) := by
        rw [← decide_not]
        exact decide_eq_decide.mpr (by simp)
      have : R (decide (x ∉ S ∧ x ≠ n)) (upd H2 q (.tup ((S ++ [n]).map nV))) := kk _ (same_new hq)
      rw [← e] at this
      exact this
    · intro x hx _ H2 R t kk
      have hx2 := List.mem_range.mp hx
      exact ⟨_, rfl, _, rfl, _, rfl, _, rfl, a, l, B, S, n, x, rfl, hb1.same t, bo, t _ _ hl1, hn, hx2, fun H3 s3 => kk H3 s3⟩
    · intro H2 s2 hD
      have e : (((List.range (nB B)).filter fun x => decide (x ∉ S ∧ x ≠ n)).map fun x => V.bl (gtB B S n x)) = (((List.range (nB B)).filter fun x => decide (x ∉ S ∧ x ≠ n)).map fun x => gtB B S n x).map V.bl := by
        rw [List.map_map]; rfl
      rw [e] at hD
      exact ⟨D, _, rfl, SqL.of hD, q_bl (can_any B S n) (k H2 (s1.trans s2))⟩
def sp_with_line (K : PySem.W.Frag) : Sp := fun vs H Q _ => ∃ l S x, vs = [.ref l, nV x] ∧ H l = some (.tup (S.map nV)) ∧ S.Pairwise (· < ·) ∧ x ∉ S ∧ S.length ≤ 60 ∧
  ∀ H' p, Same H H' → H p = none → H' p = some (.tup ((insL x S).map nV)) → Q (.ref p) H'
theorem ok_with_line {f : Addr} {fd : FuncData} (T : Txt K mg) (d : Dn K mg "with_line" s_with_line ["lot", "line"] f fd) : FnOk P w K mg base CX0 1 f fd ["lot", "line"] (sp_with_line K) := by
  refine d.F.ok sc_with_line (fun vs H Q E h => ?_) (fun cdv A outer s H vs Q E hr h => ?_)
  · obtain ⟨l, S, x, rfl, hl, up, hx, hlen, k⟩ := h
    rfl
  · obtain ⟨l, S, x, rfl, hl, up, hx, hlen, k⟩ := h
    have nd := sc_with_line.nd
    have hu := hu_of hr
    refine ⟨_, (pss_one (ps_ret (pe_callTy (T := "tuple") (kc_tuple (K := K)) (by rfl) T.btuple (by decide +kernel) (pa_cons (pe_callB (id := "sorted") (kc_sorted (K := K)) (by rfl) T.bsorted (by decide +kernel) (pa_cons (pe_lst (k_star (K := K) (pv 0) (pa_cons (pv 1) pa_nil))) pa_nil)) pa_nil)))), ?_⟩
    refine ⟨_, rfl, l, _, rfl, .inl (SqT.of hl), _, rfl, ?_, fun q hq => ?_⟩
    · rw [List.length_append, List.length_map]
      exact len_small (by simp; omega)
    have e0 : S.map nV ++ [nV x] = ((S ++ [x]).map fun n : Nat => (n : Int)).map V.int := by rw [List.map_map, List.map_append]; rfl
    refine ⟨q, (S ++ [x]).map fun n : Nat => (n : Int), rfl, SqL.of (by rw [upd_same, e0]), by rw [List.length_map, List.length_append]; simp; omega, fun ns p2 pm sr hp2 => ?_⟩
    refine ⟨p2, _, rfl, .inl ⟨SqL.of upd_same, fun r hr1 => ?_⟩⟩
    have pS : (S ++ [x]).Perm (insL x S) := (List.perm_append_comm (l₁ := S) (l₂ := [x])).trans (insL_perm x S).symm
    have t1 : Same H (upd (upd H q (.lst (S.map nV ++ [nV x]))) p2 (.lst (ns.map V.int))) := (same_new hq).trans (same_new hp2)
    refine k _ r (t1.trans (same_new hr1)) (t1.free hr1) ?_
    rw [upd_same, sorted_ints (insL_lt x S hx up) pS pm sr]
/-! ### run, need_strikes, play -/
def sp_run (K : PySem.W.Frag) : Sp := fun vs H Q _ => ∃ a t B xs, vs = [.ref a, .ref t] ∧ BoardAt H B a ∧ BoardOk B ∧ H t = some (.tup xs) ∧ (∀ x ∈ xs, IsItem H x) ∧
  (∀ s S H' p, xs = s.map nV → Strk B s S → Same H H' → H' p = some (.tup (S.map nV)) → Q (.ref p) H') ∧ (∀ i H', (¬ ∃ s S, xs = s.map nV ∧ Strk B s S) → Same H H' → Q (.int i) H')
theorem ok_run {f : Addr} {fd : FuncData} (T : Txt K mg) (d : Dn K mg "run" s_run ["board", "strikes"] f fd) : FnOk P w K mg base CX0 7 f fd ["board", "strikes"] (sp_run K) := by
  obtain ⟨f_can_fall, fd_can_fall, d_can_fall⟩ := T.h_can_fall
  have g_can_fall : FnOk P w K mg base CX0 6 f_can_fall fd_can_fall ["board", "lot", "line"] (sp_can_fall K) := ok_can_fall T d_can_fall
  obtain ⟨f_is_from, fd_is_from, d_is_from⟩ := T.h_is_from
  have g_is_from : FnOk P w K mg base CX0 2 f_is_from fd_is_from ["value", "least", "most"] (sp_is_from K) := ok_is_from T d_is_from
  obtain ⟨f_sides, fd_sides, d_sides⟩ := T.h_sides
  have g_sides : FnOk P w K mg base CX0 1 f_sides fd_sides ["board"] (sp_sides K) := ok_sides T d_sides
  obtain ⟨f_with_line, fd_with_line, d_with_line⟩ := T.h_with_line
  have g_with_line : FnOk P w K mg base CX0 1 f_with_line fd_with_line ["lot", "line"] (sp_with_line K) := ok_with_line T d_with_line
  refine d.F.ok sc_run (fun vs H Q E h => ?_) (fun cdv A outer s H vs Q E hr h => ?_)
  · obtain ⟨a, t, B, xs, rfl, hb, bo, ht, hit, k1, k2⟩ := h
    rfl
  · obtain ⟨a, t, B, xs, rfl, hb, bo, ht, hit, k1, k2⟩ := h
    have nd := sc_run.nd
    have hu := hu_of hr
    refine ⟨_, (pss_cons (ps_set (i := 2) nd rfl (Or.inl rfl) (pe_tup pa_nil))
      (pss_cons (ps_for PassesOwn.never rfl (k_piE (K := K) (by rfl) T.benumerate (pa_cons (pv 1) pa_nil)) (k_tup (K := K) (n := 2) rfl (pgs_cons (pg_name (i := 3) nd rfl (Or.inl rfl)) (pgs_cons (pg_name (i := 4) nd rfl (Or.inl rfl)) pgs_nil)))
        (pss_cons (ps_if (PW.pt (pw_or (pt_not (pt_val (pe_call g_is_from (hr.mono (by decide)) (by rfl) d_is_from.g d_is_from.F.kp d_is_from.b .nil pass0 (pa_cons (pv 4) (pa_cons pe_int (pa_cons (pe_op op_sub (pe_callB (id := "sum") (kc_sumT (K := K) rfl) (by rfl) T.bsum (by decide +kernel) (pa_cons (pe_call g_sides (hr.mono (by decide)) (by rfl) d_sides.g d_sides.F.kp d_sides.b .nil pass0 (pa_cons (pv 0) pa_nil)) pa_nil)) pe_int) pa_nil)))))) (pw_or (pt_cmpR (k_in (K := K)) (pv 4) (pv 2) (by rfl)) (pw_or1 (pt_not (pt_val (pe_call g_can_fall (hr.mono (by decide)) (by rfl) d_can_fall.g d_can_fall.F.kp d_can_fall.b .nil pass0 (pa_cons (pv 0) (pa_cons (pv 2) (pa_cons (pv 4) pa_nil))))))))))
          (pss_one (ps_ret (pv 3)))
          pss_nil)
        (pss_one (ps_set (i := 2) nd rfl (Or.inl rfl) (pe_call g_with_line (hr.mono (by decide)) (by rfl) d_with_line.g d_with_line.F.kp d_with_line.b .nil pass0 (pa_cons (pv 2) (pa_cons (pv 4) pa_nil)))))))
      (pss_one (ps_ret (pv 2))))), ?_⟩
    have n12 := nB_le bo
    refine ⟨Nat.zero_le _, fun p0 hp0 => ?_⟩
    refine ⟨_, rfl, t, xs, rfl, SqT.of (same_new hp0 _ _ ht), ?_⟩
    refine for_it walk_enumT (fun i σ H' => ∃ lt v3 v4 s S, σ = [some (.ref a), some (.ref t), some (.ref lt), v3, v4] ∧ Same H H' ∧ H' lt = some (.tup (S.map nV)) ∧ xs.take i = s.map nV ∧ Strk B s S)
      ⟨p0, none, none, [], [], rfl, same_new hp0, upd_same, rfl, .nil⟩ (fun i σ H' _ ⟨_, _, _, _, _, _, s, _⟩ => SqT.of (s _ _ ht)) ?_ ?_
    · rintro i v σ H1 H1' hi ⟨lt, v3, v4, s, S, rfl, s1, hlt, htk, hs⟩ ⟨T2, x1, x, rfl, nT, rfl, hx1, hx⟩
      have hx : xs[i]? = some x := hx
      obtain rfl : V.int (i : Int) = x1 := Option.some.inj hx1
      have s2 : Same H (upd H1 T2 (.tup [.int (i : Int), x])) := s1.trans (same_new nT)
      have hlt2 := same_new nT (o := .tup [.int (i : Int), x]) _ _ hlt
      have itx : IsItem (upd H1 T2 (.tup [.int (i : Int), x])) x := (hit x (List.mem_of_getElem? hx)).same s2
      refine ⟨T2, [.int (i : Int), x], rfl, SqT.of upd_same, rfl, _, _, rfl, _, _, rfl, rfl, ?_⟩
      -- is_from(line, 0, sum(sides(board)) - 1)
      refine ⟨_, rfl, _, rfl, a, B, rfl, hb.same s2, bo, fun H2 p s3 n3 e3 => ?_⟩
      refine ⟨p, [((hB B : Nat) : Int), ((wB B : Nat) : Int)], rfl, SqT.of e3, _, _, rfl, rfl, _, _, _, rfl, itx.same s3, _, rfl, ?_⟩
      rw [sum2]
      have s4 := s2.trans s3
      by_cases c1 : ∃ l, x = nV l ∧ l < nB B
      · obtain ⟨l, rfl, hl⟩ := c1
        have e : inB 0 ((nB B : Int) - 1) (nV l) = true := by
          show (decide ((0 : Int) ≤ (l : Int)) && decide ((l : Int) ≤ (nB B : Int) - 1)) = true
          rw [decide_eq_true (by omega), decide_eq_true (by omega)]; rfl
        rw [e]
        refine iteF ?_
        have hlt3 := s3 _ _ hlt2
        refine ⟨_, rfl, _, rfl, lt, _, rfl, .inr (SqT.of hlt3), rfl, flat_nVs S, _, rfl, ?_⟩
        rw [inV_nV]
        have hlen := lotLen bo hs.rising hs.lt
        by_cases c2 : l ∈ S
        · have e2 : decide (l ∈ S) = true := decide_eq_true c2
          refine ite2 (fun _ => ?_) (fun z => absurd e2 z)
          refine iteT ⟨_, rfl, k2 _ _ (run_stop htk hs hx fun m em hm => ?_) s4⟩
          rw [← nV_inj em] at hm
          exact hm.2.1 c2
        · have e2 : ¬ decide (l ∈ S) = true := fun z => c2 (of_decide_eq_true z)
          refine ite2 (fun z => absurd z e2) (fun _ => ?_)
          refine ⟨_, rfl, _, rfl, _, rfl, a, lt, B, S, l, rfl, hb.same s4, bo, hlt3, hl, by omega, fun H3 s5 => ?_⟩
          refine ⟨_, rfl, ?_⟩
          cases c3 : cfB B S l with
          | false =>
            refine iteT ⟨_, rfl, k2 _ _ (run_stop htk hs hx fun m em hm => ?_) (s4.trans s5)⟩
            rw [← nV_inj em] at hm
            exact (cfB_not.mp c3) hm.2.2
          | true =>
            refine iteF ?_
            refine ⟨_, rfl, _, rfl, lt, S, l, rfl, s5 _ _ hlt3, hs.rising, c2, by omega, fun H4 p4 s6 n6 e6 => ?_⟩
            refine ⟨p4, _, _, s ++ [l], insL l S, rfl, (s4.trans s5).trans s6, e6, ?_, .snoc hs hl c2 (cfB_iff.mp c3)⟩
            rw [List.take_add_one, hx, htk, List.map_append]
            rfl
      · have e : inB 0 ((nB B : Int) - 1) x = false := by
          rcases itx with ⟨i, rfl⟩ | ⟨b, rfl⟩ | ⟨p, ys, rfl, hp⟩
          · show (decide ((0 : Int) ≤ i) && decide (i ≤ (nB B : Int) - 1)) = false
            rw [Bool.eq_false_iff]
            intro z
            obtain ⟨z1, z2⟩ := Bool.and_eq_true_iff.mp z
            have z1 := of_decide_eq_true z1
            have z2 := of_decide_eq_true z2
            refine c1 ⟨i.toNat, ?_, by omega⟩
            have : ((i.toNat : Nat) : Int) = i := by omega
            show V.int i = V.int ((i.toNat : Nat) : Int)
            rw [this]
          · rfl
          · rfl
        rw [e]
        exact iteT (iteT ⟨_, rfl, k2 _ _ (run_stop htk hs hx fun m em hm => c1 ⟨m, em, hm.1⟩) s4⟩)
    · rintro σ H1 ⟨lt, v3, v4, s, S, rfl, s1, hlt, htk, hs⟩
      rw [List.take_length] at htk
      exact ⟨_, rfl, k1 s S H1 lt htk hs s1 hlt⟩
def sp_need_strikes (K : PySem.W.Frag) : Sp := fun vs H Q _ => ∃ a t B s S, vs = [.ref a, .ref t] ∧ BoardAt H B a ∧ BoardOk B ∧ H t = some (.tup (s.map nV)) ∧ Strk B s S ∧
  ∀ H' p, Same H H' → H' p = some (.tup (S.map nV)) → Q (.ref p) H'
theorem items_nV {H : Hp} (s : List Nat) : ∀ x ∈ s.map nV, IsItem H x := fun x hx => by
  obtain ⟨n, _, rfl⟩ := List.mem_map.mp hx
  exact .inl ⟨_, rfl⟩
theorem ok_need_strikes {f : Addr} {fd : FuncData} (T : Txt K mg) (d : Dn K mg "need_strikes" s_need_strikes ["board", "value"] f fd) : FnOk P w K mg base CX0 8 f fd ["board", "value"] (sp_need_strikes K) := by
  obtain ⟨f_run, fd_run, d_run⟩ := T.h_run
  have g_run : FnOk P w K mg base CX0 7 f_run fd_run ["board", "strikes"] (sp_run K) := ok_run T d_run
  refine d.F.ok sc_need_strikes (fun vs H Q E h => ?_) (fun cdv A outer s H vs Q E hr h => ?_)
  · obtain ⟨a, t, B, s, S, rfl, hb, bo, ht, hs, k⟩ := h
    rfl
  · obtain ⟨a, t, B, s, S, rfl, hb, bo, ht, hs, k⟩ := h
    have nd := sc_need_strikes.nd
    have hu := hu_of hr
    refine ⟨_, (pss_cons (ps_if (pt_not (pt_val (pe_callB (id := "isinstance") (kc_isi (K := K)) (by rfl) T.bisinstance (by decide +kernel) (pa_cons (pv 1) (pa_cons (pe_bltn (v := .ty "tuple") (by rfl) T.btuple (by decide +kernel) rfl) pa_nil)))))
        (pss_one ps_never)
        pss_nil)
      (pss_cons (ps_set (i := 2) nd rfl (Or.inl rfl) (pe_call g_run (hr.mono (by decide)) (by rfl) d_run.g d_run.F.kp d_run.b .nil pass0 (pa_cons (pv 0) (pa_cons (pv 1) pa_nil))))
      (pss_cons (ps_if (pt_val (pe_callB (id := "isinstance") (kc_isi (K := K)) (by rfl) T.bisinstance (by decide +kernel) (pa_cons (pv 2) (pa_cons (pe_bltn (v := .ty "int") (by rfl) T.bint (by decide +kernel) rfl) pa_nil))))
        (pss_one ps_never)
        pss_nil)
      (pss_one (ps_ret (pv 2)))))), ?_⟩
    refine ⟨_, rfl, _, _, _, _, true, rfl, .ty _, .base (.tup ht), kit_ty (by decide +kernel), true, rfl, iteF ?_⟩
    refine ⟨_, rfl, _, rfl, a, t, B, _, rfl, hb, bo, ht, items_nV s, fun s' S' H1 p e1 hs' s1 hp => ?_, fun i H1 z _ => (z ⟨s, S, rfl, hs⟩).elim⟩
    have e2 := nVs_inj e1
    subst e2
    have e3 := hs'.fn hs
    subst e3
    refine ⟨_, rfl, _, _, _, _, false, rfl, .ty _, .base (.tup hp), kit_ty (by decide +kernel), false, rfl, iteF ?_⟩
    exact ⟨_, rfl, k H1 p s1 hp⟩
def sp_play (K : PySem.W.Frag) : Sp := sp_need_strikes K
theorem ok_play {f : Addr} {fd : FuncData} (T : Txt K mg) (d : Dn K mg "play" s_play ["board", "strikes"] f fd) : FnOk P w K mg base CX0 9 f fd ["board", "strikes"] (sp_play K) := by
  obtain ⟨f_need_board, fd_need_board, d_need_board⟩ := T.h_need_board
  have g_need_board : FnOk P w K mg base CX0 4 f_need_board fd_need_board ["value"] (sp_need_board K) := ok_need_board T d_need_board
  obtain ⟨f_need_strikes, fd_need_strikes, d_need_strikes⟩ := T.h_need_strikes
  have g_need_strikes : FnOk P w K mg base CX0 8 f_need_strikes fd_need_strikes ["board", "value"] (sp_need_strikes K) := ok_need_strikes T d_need_strikes
  refine d.F.ok sc_play (fun vs H Q E h => ?_) (fun cdv A outer s H vs Q E hr h => ?_)
  · obtain ⟨a, t, B, s, S, rfl, hb, bo, ht, hs, k⟩ := h
    rfl
  · obtain ⟨a, t, B, s, S, rfl, hb, bo, ht, hs, k⟩ := h
    have nd := sc_play.nd
    have hu := hu_of hr
    refine ⟨_, (pss_cons (ps_expr (pe_call g_need_board (hr.mono (by decide)) (by rfl) d_need_board.g d_need_board.F.kp d_need_board.b .nil pass0 (pa_cons (pv 0) pa_nil)))
      (pss_one (ps_ret (pe_call g_need_strikes (hr.mono (by decide)) (by rfl) d_need_strikes.g d_need_strikes.F.kp d_need_strikes.b .nil pass0 (pa_cons (pv 0) (pa_cons (pv 1) pa_nil)))))), ?_⟩
    refine ⟨_, rfl, a, B, rfl, hb, bo, fun H1 s1 => ?_⟩
    exact ⟨_, rfl, _, rfl, a, t, B, s, S, rfl, hb.same s1, bo, s1 _ _ ht, hs, fun H2 p s2 hp => k H2 p (s1.trans s2) hp⟩
end
end K1
namespace K1
open PySem PySem.Spec PyProof.Rows L2
section
variable {P : Program} {w : World} {K : PySem.W.Frag} {mg : Str → Option Value} {base : Heap}
/-! ### closure -/
noncomputable def someL (B : Board) (W C : List Nat) : List Nat := W.filter fun x => decide (x ∉ C) && cfB B C x
theorem mem_someL {B : Board} {W C : List Nat} {x : Nat} : x ∈ someL B W C ↔ x ∈ W ∧ x ∉ C ∧ cf B C x := by
  unfold someL
  rw [List.mem_filter, Bool.and_eq_true, decide_eq_true_iff, cfB_iff]
def sp_closure (K : PySem.W.Frag) : Sp := fun vs H Q _ => ∃ a l B W, vs = [.ref a, .ref l] ∧ BoardAt H B a ∧ BoardOk B ∧ H l = some (.tup (W.map nV)) ∧ (∀ x ∈ W, x < nB B) ∧ W.length ≤ 100 ∧
  ∀ H' p s C, Same H H' → H p = none → H' p = some (.lst (s.map nV)) → Clo B W s C → Q (.ref p) H'
theorem ok_closure {f : Addr} {fd : FuncData} (T : Txt K mg) (d : Dn K mg "closure" s_closure ["board", "within"] f fd) : FnOk P w K mg base CX0 7 f fd ["board", "within"] (sp_closure K) := by
  obtain ⟨f_can_fall, fd_can_fall, d_can_fall⟩ := T.h_can_fall
  have g_can_fall : FnOk P w K mg base CX0 6 f_can_fall fd_can_fall ["board", "lot", "line"] (sp_can_fall K) := ok_can_fall T d_can_fall
  obtain ⟨f_with_line, fd_with_line, d_with_line⟩ := T.h_with_line
  have g_with_line : FnOk P w K mg base CX0 1 f_with_line fd_with_line ["lot", "line"] (sp_with_line K) := ok_with_line T d_with_line
  refine d.F.ok sc_closure (fun vs H Q E h => ?_) (fun cdv A outer s H vs Q E hr h => ?_)
  · obtain ⟨a, l, B, W, rfl, hb, bo, hl, hW, hlen, k⟩ := h
    rfl
  · obtain ⟨a, l, B, W, rfl, hb, bo, hl, hW, hlen, k⟩ := h
    have nd := sc_closure.nd
    have hu := hu_of hr
    refine ⟨_, (pss_cons (ps_asg (pe_tup (pa_cons (pe_tup pa_nil) (pa_cons (pe_lst pa_nil) pa_nil))) (k_tup (K := K) (n := 2) rfl (pgs_cons (pg_name (i := 2) nd rfl (Or.inr rfl)) (pgs_cons (pg_name (i := 3) nd rfl (Or.inl rfl)) pgs_nil))))
      (pss_cons (ps_setLc (i := 4) (own := [("line", 5)]) rfl nd rfl rfl (sw_true rfl rfl rfl (by decide +kernel)) (k_piT (K := K) (pv 1)) (blkOk_by (N := ["board", "within", "lot", "order", "some", "line"]) (sc := defScope s_closure) (by decide +kernel)) (fun _ _ _ _ _ => pg_name (i := 5) nd rfl (Or.inl rfl)) (fun _ _ _ _ _ => pts_one (pt_val (pe_call g_can_fall (hr.mono (by decide)) (by rfl) d_can_fall.g d_can_fall.F.kp d_can_fall.b .nil pass0 (pa_cons (pv 0) (pa_cons (pv 2) (pa_cons (pv 5) pa_nil)))))) (fun _ _ _ _ _ => (pv 5)))
      (pss_cons (ps_while PassesOwn.never (pt_cmpR (k_neD (K := K) hr.units) (pv 4) (pe_lst pa_nil) (by rfl))
        (pss_cons (ps_asg (pe_tup (pa_cons (pe_call g_with_line (hr.mono (by decide)) (by rfl) d_with_line.g d_with_line.F.kp d_with_line.b .nil pass0 (pa_cons (pv 2) (pa_cons (pe_ix (k_ixL (K := K)) (pv 4) pe_int (fun _ _ => rfl)) pa_nil))) (pa_cons (pe_lst (k_star (K := K) (pv 3) (pa_cons (pe_ix (k_ixL (K := K)) (pv 4) pe_int (fun _ _ => rfl)) pa_nil))) pa_nil))) (k_tup (K := K) (n := 2) rfl (pgs_cons (pg_name (i := 2) nd rfl (Or.inr rfl)) (pgs_cons (pg_name (i := 3) nd rfl (Or.inl rfl)) pgs_nil))))
        (pss_one (ps_setLc (i := 4) (own := [("line", 5)]) rfl nd rfl rfl (sw_true rfl rfl rfl (by decide +kernel)) (k_piT (K := K) (pv 1)) (blkOk_by (N := ["board", "within", "lot", "order", "some", "line"]) (sc := defScope s_closure) (by decide +kernel)) (fun _ _ _ _ _ => pg_name (i := 5) nd rfl (Or.inl rfl)) (fun _ _ _ _ _ => pts_one (PW.pt (pw_and (pt_cmpR (k_notIn (K := K)) (pv 5) (pv 2) (by rfl)) (pw_and1 (pt_val (pe_call g_can_fall (hr.mono (by decide)) (by rfl) d_can_fall.g d_can_fall.F.kp d_can_fall.b .nil pass0 (pa_cons (pv 0) (pa_cons (pv 2) (pa_cons (pv 5) pa_nil))))))))) (fun _ _ _ _ _ => (pv 5))))))
      (pss_one (ps_ret (pv 3)))))), ?_⟩
    have n12 := nB_le bo
    -- lot, order = ((), [])
    refine ⟨Nat.zero_le _, fun p0 hp0 => ⟨Nat.zero_le _, fun q0 hq0 => ⟨by show 2 ≤ sizeLine; decide, fun t0 ht0 => ?_⟩⟩⟩
    have s1 : Same H (upd H p0 (.tup [])) := same_new hp0
    have s2 : Same (upd H p0 (.tup [])) (upd (upd H p0 (.tup [])) q0 (.lst [])) := same_new hq0
    have s3 : Same (upd (upd H p0 (.tup [])) q0 (.lst [])) (upd (upd (upd H p0 (.tup [])) q0 (.lst [])) t0 (.tup [.ref p0, .ref q0])) := same_new ht0
    generalize hH3 : upd (upd (upd H p0 (.tup [])) q0 (.lst [])) t0 (.tup [.ref p0, .ref q0]) = H3 at s3
    have e1 : H3 p0 = some (.tup (([] : List Nat).map nV)) := s3 _ _ (s2 _ _ upd_same)
    have e2 : H3 q0 = some (.lst (([] : List Nat).map nV)) := s3 _ _ upd_same
    have e3 : H3 t0 = some (.tup [.ref p0, .ref q0]) := by rw [← hH3]; exact upd_same
    have sH : Same H H3 := (s1.trans s2).trans s3
    have hl3 := sH _ _ hl
    have hb3 := hb.same sH
    have q0H : H q0 = none := s1.free hq0
    refine ⟨t0, _, rfl, SqT.of e3, rfl, _, _, rfl, _, _, rfl, rfl, ?_⟩
    -- some
    refine ⟨_, rfl, l, rfl, ⟨_, SqT.of hl3⟩, fun D nD => ?_⟩
    refine lcF (L := W) (F := nV) walk_tupM nD (by omega) (fun x => cfB B [] x) nV (fun H2 t => SqT.of (t _ _ hl3)) (fun _ => rfl) ?_ ?_ ?_
    · intro x hx H2 R t kk
      exact ⟨_, rfl, _, rfl, _, rfl, a, p0, B, [], x, rfl, hb3.same t, bo, t _ _ e1, hW x hx, by simp, fun H4 s4 => ⟨_, rfl, kk H4 s4⟩⟩
    · intro x hx _ H2 R t kk
      exact ⟨_, rfl, kk H2 (Same.refl _)⟩
    intro H4 s4 hD
    have eD : (W.filter fun x => cfB B [] x) = someL B W [] := by
      unfold someL
      refine List.filter_congr fun x _ => ?_
      simp
    rw [eD] at hD
    -- the loop
    refine ⟨fun m σ H' => ∃ lt od sm v5 s C, σ = [some (.ref a), some (.ref l), some (.ref lt), some (.ref od), some (.ref sm), v5] ∧ Same H H' ∧ H od = none ∧ H' lt = some (.tup (C.map nV)) ∧ H' od = some (.lst (s.map nV)) ∧
      H' sm = some (.lst ((someL B W C).map nV)) ∧ Strk B s C ∧ (∀ x ∈ C, x ∈ W) ∧ m + C.length = nB B,
      ⟨nB B, p0, q0, D, none, [], [], rfl, sH.trans s4, q0H, s4 _ _ e1, s4 _ _ e2, hD, .nil, by simp, by simp⟩, ?_⟩
    rintro m σ H5 ⟨lt, od, sm, v5, s, C, rfl, t5, nod, hlt, hod, hsm, hs, hCW, hm⟩
    refine ⟨_, rfl, Nat.zero_le _, fun e5 he5 => ?_⟩
    have u5 : Same H5 (upd H5 e5 (.lst [])) := same_new he5
    refine ⟨_, _, .lst (SqL.of (u5 _ _ hsm)) (dpAll_nV _), .lst (SqL.of upd_same) (dpAll_nV []), shaped_lst _, shaped_lst [], _, rfl, ?_⟩
    rw [eqv_lst]
    have t6 := t5.trans u5
    by_cases c : someL B W C = []
    · rw [decide_eq_true c]
      refine iteF ⟨_, rfl, k _ od s C t6 nod (u5 _ _ hod) ⟨hs, hCW, fun x hx hxC hf => ?_⟩⟩
      have : x ∈ someL B W C := mem_someL.mpr ⟨hx, hxC, hf⟩
      rw [c] at this
      simp at this
    · rw [decide_eq_false c]
      obtain ⟨x, r, ex⟩ : ∃ x r, someL B W C = x :: r := by
        cases h : someL B W C with
        | nil => exact absurd h c
        | cons x r => exact ⟨x, r, rfl⟩
      obtain ⟨x1, x2, x3⟩ := mem_someL.mp (show x ∈ someL B W C by rw [ex]; exact List.mem_cons_self)
      have hx := hW x x1
      have hClen := lotLen bo hs.rising hs.lt
      have hslen := hs.len
      have hs' := hs.snoc hx x2 x3
      have hm1 : 1 ≤ m := by
        have := hs'.bound
        rw [insL_len] at this
        omega
      have get0 : ((someL B W C).map nV)[0]? = some (nV x) := by rw [ex]; rfl
      refine iteT ⟨fun σ' H' => ∃ lt od sm v5 s C, σ' = [some (.ref a), some (.ref l), some (.ref lt), some (.ref od), some (.ref sm), v5] ∧ Same H H' ∧ H od = none ∧ H' lt = some (.tup (C.map nV)) ∧ H' od = some (.lst (s.map nV)) ∧
        H' sm = some (.lst ((someL B W C).map nV)) ∧ Strk B s C ∧ (∀ x ∈ C, x ∈ W) ∧ (m - 1) + C.length = nB B, fun σ' H' z => ⟨m - 1, by omega, z⟩, ?_⟩
      -- lot, order = (with_line(lot, some[0]), [*order, some[0]])
      refine ⟨_, rfl, _, rfl, sm, _, (0 : Nat), nV x, rfl, rfl, SqL.of (u5 _ _ hsm), atI_nat get0, ?_⟩
      refine ⟨lt, C, x, rfl, u5 _ _ hlt, hs.rising, x2, by omega, fun H6 p6 s6 n6 e6 => ?_⟩
      refine ⟨_, rfl, od, _, rfl, .inr (SqL.of (s6 _ _ (u5 _ _ hod))), ?_⟩
      refine ⟨_, rfl, sm, _, (0 : Nat), nV x, rfl, rfl, SqL.of (s6 _ _ (u5 _ _ hsm)), atI_nat get0, ?_⟩
      refine ⟨?_, fun q7 hq7 => ?_⟩
      · rw [List.length_append, List.length_map]
        exact len_small (by simp; omega)
      have eq7 : s.map nV ++ [nV x] = (s ++ [x]).map nV := by rw [List.map_append]; rfl
      refine ⟨by show 2 ≤ sizeLine; decide, fun t7 ht7 => ?_⟩
      have s7 : Same H6 (upd H6 q7 (.lst (s.map nV ++ [nV x]))) := same_new hq7
      have s8 : Same (upd H6 q7 (.lst (s.map nV ++ [nV x]))) (upd (upd H6 q7 (.lst (s.map nV ++ [nV x]))) t7 (.tup [.ref p6, .ref q7])) := same_new ht7
      generalize hH8 : upd (upd H6 q7 (.lst (s.map nV ++ [nV x]))) t7 (.tup [.ref p6, .ref q7]) = H8 at s8
      have f1 : H8 p6 = some (.tup ((insL x C).map nV)) := s8 _ _ (s7 _ _ e6)
      have f2 : H8 q7 = some (.lst ((s ++ [x]).map nV)) := by rw [← eq7]; exact s8 _ _ upd_same
      have f3 : H8 t7 = some (.tup [.ref p6, .ref q7]) := by rw [← hH8]; exact upd_same
      have t8 : Same H H8 := ((t6.trans s6).trans s7).trans s8
      have q7H : H q7 = none := (t6.trans s6).free hq7
      refine ⟨t7, _, rfl, SqT.of f3, rfl, _, _, rfl, _, _, rfl, rfl, ?_⟩
      have hl8 := t8 _ _ hl
      have hb8 := hb.same t8
      refine ⟨_, rfl, l, rfl, ⟨_, SqT.of hl8⟩, fun D8 nD8 => ?_⟩
      refine lcF (L := W) (F := nV) walk_tupM nD8 (by omega) (fun y => decide (y ∉ insL x C) && cfB B (insL x C) y) nV (fun H2 t => SqT.of (t _ _ hl8)) (fun _ => rfl) ?_ ?_ ?_
      · intro y hy H2 R t kk
        refine ⟨_, rfl, _, rfl, p6, _, rfl, .inr (SqT.of (t _ _ f1)), rfl, flat_nVs _, _, rfl, ?_⟩
        rw [inV_nV]
        by_cases c2 : y ∈ insL x C
        · have e : decide (y ∈ insL x C) = true := decide_eq_true c2
          have e' : (decide (y ∉ insL x C) && cfB B (insL x C) y) = false := by simp [c2]
          rw [e]
          rw [e'] at kk
          exact iteF (kk H2 (Same.refl _))
        · have e : decide (y ∈ insL x C) = false := decide_eq_false c2
          have e' : (decide (y ∉ insL x C) && cfB B (insL x C) y) = cfB B (insL x C) y := by simp [c2]
          rw [e]
          rw [e'] at kk
          refine iteT ⟨_, rfl, _, rfl, _, rfl, a, p6, B, insL x C, y, rfl, hb8.same t, bo, t _ _ f1, hW y hy, by rw [insL_len]; omega, fun H4 s4 => ⟨_, rfl, kk H4 s4⟩⟩
      · intro y hy _ H2 R t kk
        exact ⟨_, rfl, kk H2 (Same.refl _)⟩
      · intro H9 s9 hD9
        refine ⟨p6, q7, D8, v5, s ++ [x], insL x C, rfl, t8.trans s9, q7H, s9 _ _ f1, s9 _ _ f2, hD9, hs', fun y hy => ?_, ?_⟩
        · rcases mem_insL.mp hy with rfl | hy
          · exact x1
          · exact hCW y hy
        · rw [insL_len]
          omega
/-! ### is_reached, comes -/
def sp_is_reached (K : PySem.W.Frag) : Sp := fun vs H Q _ => ∃ a l B W, vs = [.ref a, .ref l] ∧ BoardAt H B a ∧ BoardOk B ∧ H l = some (.tup (W.map nV)) ∧ LotOk B W ∧ ∀ H', Same H H' → Q (.bl (comB B W)) H'
theorem ok_is_reached {f : Addr} {fd : FuncData} (T : Txt K mg) (d : Dn K mg "is_reached" s_is_reached ["board", "lot"] f fd) : FnOk P w K mg base CX0 8 f fd ["board", "lot"] (sp_is_reached K) := by
  obtain ⟨f_closure, fd_closure, d_closure⟩ := T.h_closure
  have g_closure : FnOk P w K mg base CX0 7 f_closure fd_closure ["board", "within"] (sp_closure K) := ok_closure T d_closure
  refine d.F.ok sc_is_reached (fun vs H Q E h => ?_) (fun cdv A outer s H vs Q E hr h => ?_)
  · obtain ⟨a, l, B, W, rfl, hb, bo, hl, lo, k⟩ := h
    rfl
  · obtain ⟨a, l, B, W, rfl, hb, bo, hl, lo, k⟩ := h
    have nd := sc_is_reached.nd
    have hu := hu_of hr
    refine ⟨_, (pss_one (ps_ret (pe_cmpR op_eq (pe_callB (id := "len") (kc_len (K := K)) (by rfl) T.blen (by decide +kernel) (pa_cons (pe_call g_closure (hr.mono (by decide)) (by rfl) d_closure.g d_closure.F.kp d_closure.b .nil pass0 (pa_cons (pv 0) (pa_cons (pv 1) pa_nil))) pa_nil)) (pe_callB (id := "len") (kc_len (K := K)) (by rfl) T.blen (by decide +kernel) (pa_cons (pv 1) pa_nil)) (by rfl)))), ?_⟩
    have hlen := lo.len bo
    refine ⟨_, rfl, _, rfl, a, l, B, W, rfl, hb, bo, hl, lo.lt, by omega, fun H1 p s C s1 np hp hc => ?_⟩
    refine ⟨p, _, rfl, .inl (SqL.of hp), ?_⟩
    refine ⟨_, rfl, l, _, rfl, .inr (SqT.of (s1 _ _ hl)), rfl, ?_⟩
    have e : decide (V.int ((s.map nV).length : Int) = V.int ((W.map nV).length : Int)) = comB B W := by
      rw [Bool.eq_iff_iff, comB_iff, ← hc.reach bo lo.up, decide_eq_true_iff, List.length_map, List.length_map]
      constructor
      · intro z
        have := V.int.inj z
        omega
      · intro z
        rw [z]
    exact q_bl e (k H1 s1)
def sp_comes (K : PySem.W.Frag) : Sp := sp_is_reached K
theorem ok_comes {f : Addr} {fd : FuncData} (T : Txt K mg) (d : Dn K mg "comes" s_comes ["board", "lot"] f fd) : FnOk P w K mg base CX0 9 f fd ["board", "lot"] (sp_comes K) := by
  obtain ⟨f_need_board, fd_need_board, d_need_board⟩ := T.h_need_board
  have g_need_board : FnOk P w K mg base CX0 4 f_need_board fd_need_board ["value"] (sp_need_board K) := ok_need_board T d_need_board
  obtain ⟨f_need_lot, fd_need_lot, d_need_lot⟩ := T.h_need_lot
  have g_need_lot : FnOk P w K mg base CX0 4 f_need_lot fd_need_lot ["board", "value"] (sp_need_lot K) := ok_need_lot T d_need_lot
  obtain ⟨f_is_reached, fd_is_reached, d_is_reached⟩ := T.h_is_reached
  have g_is_reached : FnOk P w K mg base CX0 8 f_is_reached fd_is_reached ["board", "lot"] (sp_is_reached K) := ok_is_reached T d_is_reached
  refine d.F.ok sc_comes (fun vs H Q E h => ?_) (fun cdv A outer s H vs Q E hr h => ?_)
  · obtain ⟨a, l, B, W, rfl, hb, bo, hl, lo, k⟩ := h
    rfl
  · obtain ⟨a, l, B, W, rfl, hb, bo, hl, lo, k⟩ := h
    have nd := sc_comes.nd
    have hu := hu_of hr
    refine ⟨_, (pss_cons (ps_expr (pe_call g_need_board (hr.mono (by decide)) (by rfl) d_need_board.g d_need_board.F.kp d_need_board.b .nil pass0 (pa_cons (pv 0) pa_nil)))
      (pss_cons (ps_expr (pe_call g_need_lot (hr.mono (by decide)) (by rfl) d_need_lot.g d_need_lot.F.kp d_need_lot.b .nil pass0 (pa_cons (pv 0) (pa_cons (pv 1) pa_nil))))
      (pss_one (ps_ret (pe_call g_is_reached (hr.mono (by decide)) (by rfl) d_is_reached.g d_is_reached.F.kp d_is_reached.b .nil pass0 (pa_cons (pv 0) (pa_cons (pv 1) pa_nil))))))), ?_⟩
    refine ⟨_, rfl, a, B, rfl, hb, bo, fun H1 s1 => ?_⟩
    refine ⟨_, rfl, _, rfl, a, l, B, W, rfl, hb.same s1, bo, s1 _ _ hl, lo, fun H2 s2 => ?_⟩
    exact ⟨_, rfl, _, rfl, a, l, B, W, rfl, (hb.same s1).same s2, bo, s2 _ _ (s1 _ _ hl), lo, fun H3 s3 => k H3 ((s1.trans s2).trans s3)⟩
/-! ### greatest_within, stuck, some_strikes, shows_strikes -/
def sp_greatest_within (K : PySem.W.Frag) : Sp := fun vs H Q _ => ∃ a l B W, vs = [.ref a, .ref l] ∧ BoardAt H B a ∧ BoardOk B ∧ H l = some (.tup (W.map nV)) ∧ LotOk B W ∧
  ∀ H' p s C, Same H H' → H p = none → H' p = some (.tup (C.map nV)) → Clo B W s C → Q (.ref p) H'
theorem ok_greatest_within {f : Addr} {fd : FuncData} (T : Txt K mg) (d : Dn K mg "greatest_within" s_greatest_within ["board", "lot"] f fd) : FnOk P w K mg base CX0 8 f fd ["board", "lot"] (sp_greatest_within K) := by
  obtain ⟨f_need_board, fd_need_board, d_need_board⟩ := T.h_need_board
  have g_need_board : FnOk P w K mg base CX0 4 f_need_board fd_need_board ["value"] (sp_need_board K) := ok_need_board T d_need_board
  obtain ⟨f_need_lot, fd_need_lot, d_need_lot⟩ := T.h_need_lot
  have g_need_lot : FnOk P w K mg base CX0 4 f_need_lot fd_need_lot ["board", "value"] (sp_need_lot K) := ok_need_lot T d_need_lot
  obtain ⟨f_closure, fd_closure, d_closure⟩ := T.h_closure
  have g_closure : FnOk P w K mg base CX0 7 f_closure fd_closure ["board", "within"] (sp_closure K) := ok_closure T d_closure
  refine d.F.ok sc_greatest_within (fun vs H Q E h => ?_) (fun cdv A outer s H vs Q E hr h => ?_)
  · obtain ⟨a, l, B, W, rfl, hb, bo, hl, lo, k⟩ := h
    rfl
  · obtain ⟨a, l, B, W, rfl, hb, bo, hl, lo, k⟩ := h
    have nd := sc_greatest_within.nd
    have hu := hu_of hr
    refine ⟨_, (pss_cons (ps_expr (pe_call g_need_board (hr.mono (by decide)) (by rfl) d_need_board.g d_need_board.F.kp d_need_board.b .nil pass0 (pa_cons (pv 0) pa_nil)))
      (pss_cons (ps_expr (pe_call g_need_lot (hr.mono (by decide)) (by rfl) d_need_lot.g d_need_lot.F.kp d_need_lot.b .nil pass0 (pa_cons (pv 0) (pa_cons (pv 1) pa_nil))))
      (pss_one (ps_ret (pe_callTy (T := "tuple") (kc_tuple (K := K)) (by rfl) T.btuple (by decide +kernel) (pa_cons (pe_callB (id := "sorted") (kc_sorted (K := K)) (by rfl) T.bsorted (by decide +kernel) (pa_cons (pe_call g_closure (hr.mono (by decide)) (by rfl) d_closure.g d_closure.F.kp d_closure.b .nil pass0 (pa_cons (pv 0) (pa_cons (pv 1) pa_nil))) pa_nil)) pa_nil)))))), ?_⟩
    have hlen := lo.len bo
    refine ⟨_, rfl, a, B, rfl, hb, bo, fun H1 s1 => ?_⟩
    refine ⟨_, rfl, _, rfl, a, l, B, W, rfl, hb.same s1, bo, s1 _ _ hl, lo, fun H2 s2 => ?_⟩
    refine ⟨_, rfl, _, rfl, a, l, B, W, rfl, (hb.same s1).same s2, bo, s2 _ _ (s1 _ _ hl), lo.lt, by omega, fun H3 p s C s3 np hp hc => ?_⟩
    have hClen := lotLen bo hc.strk.rising hc.strk.lt
    have hslen := hc.strk.len
    refine ⟨p, s.map fun n : Nat => (n : Int), rfl, SqL.of (by rw [hp, List.map_map]; rfl), by rw [List.length_map]; omega, fun ns p2 pm sr hp2 => ?_⟩
    refine ⟨p2, _, rfl, .inl ⟨SqL.of upd_same, fun r hr1 => ?_⟩⟩
    have t1 : Same H (upd H3 p2 (.lst (ns.map V.int))) := ((s1.trans s2).trans s3).trans (same_new hp2)
    refine k _ r s C (t1.trans (same_new hr1)) (t1.free hr1) ?_ hc
    rw [upd_same, sorted_ints hc.strk.rising hc.strk.perm pm sr]
def sp_stuck (K : PySem.W.Frag) : Sp := fun vs H Q _ => ∃ a l B W, vs = [.ref a, .ref l] ∧ BoardAt H B a ∧ BoardOk B ∧ H l = some (.tup (W.map nV)) ∧ LotOk B W ∧
  ∀ H' p s C, Same H H' → H p = none → H' p = some (.tup ((W.filter fun x => decide (x ∉ C)).map nV)) → Clo B W s C → Q (.ref p) H'
theorem ok_stuck {f : Addr} {fd : FuncData} (T : Txt K mg) (d : Dn K mg "stuck" s_stuck ["board", "lot"] f fd) : FnOk P w K mg base CX0 8 f fd ["board", "lot"] (sp_stuck K) := by
  obtain ⟨f_need_board, fd_need_board, d_need_board⟩ := T.h_need_board
  have g_need_board : FnOk P w K mg base CX0 4 f_need_board fd_need_board ["value"] (sp_need_board K) := ok_need_board T d_need_board
  obtain ⟨f_need_lot, fd_need_lot, d_need_lot⟩ := T.h_need_lot
  have g_need_lot : FnOk P w K mg base CX0 4 f_need_lot fd_need_lot ["board", "value"] (sp_need_lot K) := ok_need_lot T d_need_lot
  obtain ⟨f_closure, fd_closure, d_closure⟩ := T.h_closure
  have g_closure : FnOk P w K mg base CX0 7 f_closure fd_closure ["board", "within"] (sp_closure K) := ok_closure T d_closure
  refine d.F.ok sc_stuck (fun vs H Q E h => ?_) (fun cdv A outer s H vs Q E hr h => ?_)
  · obtain ⟨a, l, B, W, rfl, hb, bo, hl, lo, k⟩ := h
    rfl
  · obtain ⟨a, l, B, W, rfl, hb, bo, hl, lo, k⟩ := h
    have nd := sc_stuck.nd
    have hu := hu_of hr
    refine ⟨_, (pss_cons (ps_expr (pe_call g_need_board (hr.mono (by decide)) (by rfl) d_need_board.g d_need_board.F.kp d_need_board.b .nil pass0 (pa_cons (pv 0) pa_nil)))
      (pss_cons (ps_expr (pe_call g_need_lot (hr.mono (by decide)) (by rfl) d_need_lot.g d_need_lot.F.kp d_need_lot.b .nil pass0 (pa_cons (pv 0) (pa_cons (pv 1) pa_nil))))
      (pss_cons (ps_set (i := 2) nd rfl (Or.inr rfl) (pe_call g_closure (hr.mono (by decide)) (by rfl) d_closure.g d_closure.F.kp d_closure.b .nil pass0 (pa_cons (pv 0) (pa_cons (pv 1) pa_nil))))
      (pss_one (ps_ret (pe_callTy (T := "tuple") (kc_tuple (K := K)) (by rfl) T.btuple (by decide +kernel) (pa_cons (pe_lc (own := [("line", 3)]) rfl nd (k_piT (K := K) (pv 1)) (blkOk_by (N := ["board", "lot", "done", "line"]) (sc := defScope s_stuck) (by decide +kernel)) (fun _ _ _ _ _ => pg_name (i := 3) nd rfl (Or.inl rfl)) (fun _ _ _ _ _ => pts_one (pt_cmpR (k_notIn (K := K)) (pv 3) (pv 2) (by rfl))) (fun _ _ _ _ _ => (pv 3))) pa_nil))))))), ?_⟩
    have hlen := lo.len bo
    refine ⟨_, rfl, a, B, rfl, hb, bo, fun H1 s1 => ?_⟩
    refine ⟨_, rfl, _, rfl, a, l, B, W, rfl, hb.same s1, bo, s1 _ _ hl, lo, fun H2 s2 => ?_⟩
    refine ⟨_, rfl, _, rfl, a, l, B, W, rfl, (hb.same s1).same s2, bo, s2 _ _ (s1 _ _ hl), lo.lt, by omega, fun H3 p s C s3 np hp hc => ?_⟩
    have t3 := (s1.trans s2).trans s3
    have hl3 := t3 _ _ hl
    refine ⟨_, rfl, l, rfl, ⟨_, SqT.of hl3⟩, fun D nD => ?_⟩
    refine lcF (L := W) (F := nV) walk_tupM nD (by omega) (fun x => decide (x ∉ C)) nV (fun H2 t => SqT.of (t _ _ hl3)) (fun _ => rfl) ?_ ?_ ?_
    · intro x hx H4 R t kk
      refine ⟨_, rfl, _, rfl, p, _, rfl, .inl (SqL.of (t _ _ hp)), rfl, flat_nVs s, _, rfl, ?_⟩
      rw [inV_nV]
      have e : (!decide (x ∈ s)) = decide (x ∉ C) := by
        rw [← decide_not]
        exact decide_eq_decide.mpr (by rw [hc.strk.mem x])
      have : R (decide (x ∉ C)) H4 := kk H4 (Same.refl _)
      rw [← e] at this
      exact this
    · intro x hx _ H4 R t kk
      exact ⟨_, rfl, kk H4 (Same.refl _)⟩
    · intro H4 s4 hD
      refine ⟨D, _, rfl, .inl ⟨SqL.of hD, fun r hr1 => ?_⟩⟩
      have t4 := t3.trans s4
      exact k _ r s C (t4.trans (same_new hr1)) (t4.free hr1) upd_same hc
def sp_some_strikes (K : PySem.W.Frag) : Sp := fun vs H Q _ => ∃ a l B W, vs = [.ref a, .ref l] ∧ BoardAt H B a ∧ BoardOk B ∧ H l = some (.tup (W.map nV)) ∧ LotOk B W ∧
  (∀ H' p s, Same H H' → H p = none → H' p = some (.tup (s.map nV)) → Strk B s W → Q (.ref p) H') ∧ (∀ H', Same H H' → ¬ Comes B W → Q .non H')
theorem ok_some_strikes {f : Addr} {fd : FuncData} (T : Txt K mg) (d : Dn K mg "some_strikes" s_some_strikes ["board", "lot"] f fd) : FnOk P w K mg base CX0 8 f fd ["board", "lot"] (sp_some_strikes K) := by
  obtain ⟨f_need_board, fd_need_board, d_need_board⟩ := T.h_need_board
  have g_need_board : FnOk P w K mg base CX0 4 f_need_board fd_need_board ["value"] (sp_need_board K) := ok_need_board T d_need_board
  obtain ⟨f_need_lot, fd_need_lot, d_need_lot⟩ := T.h_need_lot
  have g_need_lot : FnOk P w K mg base CX0 4 f_need_lot fd_need_lot ["board", "value"] (sp_need_lot K) := ok_need_lot T d_need_lot
  obtain ⟨f_closure, fd_closure, d_closure⟩ := T.h_closure
  have g_closure : FnOk P w K mg base CX0 7 f_closure fd_closure ["board", "within"] (sp_closure K) := ok_closure T d_closure
  refine d.F.ok sc_some_strikes (fun vs H Q E h => ?_) (fun cdv A outer s H vs Q E hr h => ?_)
  · obtain ⟨a, l, B, W, rfl, hb, bo, hl, lo, k1, k2⟩ := h
    rfl
  · obtain ⟨a, l, B, W, rfl, hb, bo, hl, lo, k1, k2⟩ := h
    have nd := sc_some_strikes.nd
    have hu := hu_of hr
    refine ⟨_, (pss_cons (ps_expr (pe_call g_need_board (hr.mono (by decide)) (by rfl) d_need_board.g d_need_board.F.kp d_need_board.b .nil pass0 (pa_cons (pv 0) pa_nil)))
      (pss_cons (ps_expr (pe_call g_need_lot (hr.mono (by decide)) (by rfl) d_need_lot.g d_need_lot.F.kp d_need_lot.b .nil pass0 (pa_cons (pv 0) (pa_cons (pv 1) pa_nil))))
      (pss_cons (ps_set (i := 2) nd rfl (Or.inl rfl) (pe_call g_closure (hr.mono (by decide)) (by rfl) d_closure.g d_closure.F.kp d_closure.b .nil pass0 (pa_cons (pv 0) (pa_cons (pv 1) pa_nil))))
      (pss_one (ps_ret (pe_ifExp (pt_cmpR op_eq (pe_callB (id := "len") (kc_len (K := K)) (by rfl) T.blen (by decide +kernel) (pa_cons (pv 2) pa_nil)) (pe_callB (id := "len") (kc_len (K := K)) (by rfl) T.blen (by decide +kernel) (pa_cons (pv 1) pa_nil)) (by rfl)) (pe_callTy (T := "tuple") (kc_tuple (K := K)) (by rfl) T.btuple (by decide +kernel) (pa_cons (pv 2) pa_nil)) pe_non)))))), ?_⟩
    have hlen := lo.len bo
    refine ⟨_, rfl, a, B, rfl, hb, bo, fun H1 s1 => ?_⟩
    refine ⟨_, rfl, _, rfl, a, l, B, W, rfl, hb.same s1, bo, s1 _ _ hl, lo, fun H2 s2 => ?_⟩
    refine ⟨_, rfl, _, rfl, a, l, B, W, rfl, (hb.same s1).same s2, bo, s2 _ _ (s1 _ _ hl), lo.lt, by omega, fun H3 p s C s3 np hp hc => ?_⟩
    have t3 := (s1.trans s2).trans s3
    refine ⟨_, rfl, p, _, rfl, .inl (SqL.of hp), ?_⟩
    refine ⟨_, rfl, l, _, rfl, .inr (SqT.of (t3 _ _ hl)), rfl, _, rfl, ?_⟩
    by_cases c : s.length = W.length
    · have e : decide (V.int ((s.map nV).length : Int) = V.int ((W.map nV).length : Int)) = true := by
        rw [List.length_map, List.length_map, c]; exact decide_eq_true rfl
      rw [e]
      refine iteT ⟨_, rfl, p, _, rfl, .inl ⟨SqL.of hp, fun r hr1 => ?_⟩⟩
      have hs := hc.strk
      rw [hc.eq bo lo.up c] at hs
      exact k1 _ r s (t3.trans (same_new hr1)) (t3.free hr1) upd_same hs
    · have e : decide (V.int ((s.map nV).length : Int) = V.int ((W.map nV).length : Int)) = false := by
        refine decide_eq_false fun z => c ?_
        have := V.int.inj z
        rw [List.length_map, List.length_map] at this
        omega
      rw [e]
      exact iteF (k2 H3 t3 fun z => c ((hc.reach bo lo.up).mpr z))
/-- no tuple -/
def NoTup (H : Hp) (v : V) : Prop := v = .non ∨ (∃ i, v = .int i) ∨ (∃ x, v = .str x) ∨ ∃ p xs, v = .ref p ∧ H p = some (.lst xs)
def sp_shows_strikes (K : PySem.W.Frag) : Sp := fun vs H Q _ => ∃ a l B W v, vs = [.ref a, .ref l, v] ∧ BoardAt H B a ∧ BoardOk B ∧ H l = some (.tup (W.map nV)) ∧ LotOk B W ∧
  ((NoTup H v ∧ ∀ H', Same H H' → Q (.bl false) H') ∨ ∃ t xs, v = .ref t ∧ H t = some (.tup xs) ∧ (∀ x ∈ xs, IsItem H x) ∧ ∀ H' b, Same H H' → (b = true ↔ ∃ s, xs = s.map nV ∧ Strk B s W) → Q (.bl b) H')
theorem ok_shows_strikes {f : Addr} {fd : FuncData} (T : Txt K mg) (d : Dn K mg "shows_strikes" s_shows_strikes ["board", "lot", "value"] f fd) : FnOk P w K mg base CX0 8 f fd ["board", "lot", "value"] (sp_shows_strikes K) := by
  obtain ⟨f_need_board, fd_need_board, d_need_board⟩ := T.h_need_board
  have g_need_board : FnOk P w K mg base CX0 4 f_need_board fd_need_board ["value"] (sp_need_board K) := ok_need_board T d_need_board
  obtain ⟨f_need_lot, fd_need_lot, d_need_lot⟩ := T.h_need_lot
  have g_need_lot : FnOk P w K mg base CX0 4 f_need_lot fd_need_lot ["board", "value"] (sp_need_lot K) := ok_need_lot T d_need_lot
  obtain ⟨f_run, fd_run, d_run⟩ := T.h_run
  have g_run : FnOk P w K mg base CX0 7 f_run fd_run ["board", "strikes"] (sp_run K) := ok_run T d_run
  refine d.F.ok sc_shows_strikes (fun vs H Q E h => ?_) (fun cdv A outer s H vs Q E hr h => ?_)
  · obtain ⟨a, l, B, W, v, rfl, hb, bo, hl, lo, k⟩ := h
    rfl
  · obtain ⟨a, l, B, W, v, rfl, hb, bo, hl, lo, k⟩ := h
    have nd := sc_shows_strikes.nd
    have hu := hu_of hr
    refine ⟨_, (pss_cons (ps_expr (pe_call g_need_board (hr.mono (by decide)) (by rfl) d_need_board.g d_need_board.F.kp d_need_board.b .nil pass0 (pa_cons (pv 0) pa_nil)))
      (pss_cons (ps_expr (pe_call g_need_lot (hr.mono (by decide)) (by rfl) d_need_lot.g d_need_lot.F.kp d_need_lot.b .nil pass0 (pa_cons (pv 0) (pa_cons (pv 1) pa_nil))))
      (pss_one (ps_ret (pe_and (pe_callB (id := "isinstance") (kc_isi (K := K)) (by rfl) T.bisinstance (by decide +kernel) (pa_cons (pv 2) (pa_cons (pe_bltn (v := .ty "tuple") (by rfl) T.btuple (by decide +kernel) rfl) pa_nil))) (pe_one (pe_cmpR (k_eqD (K := K) hr.units) (pe_call g_run (hr.mono (by decide)) (by rfl) d_run.g d_run.F.kp d_run.b .nil pass0 (pa_cons (pv 0) (pa_cons (pv 2) pa_nil))) (pv 1) (by rfl)))))))), ?_⟩
    have hlen := lo.len bo
    refine ⟨_, rfl, a, B, rfl, hb, bo, fun H1 s1 => ?_⟩
    refine ⟨_, rfl, _, rfl, a, l, B, W, rfl, hb.same s1, bo, s1 _ _ hl, lo, fun H2 s2 => ?_⟩
    have t2 := s1.trans s2
    rcases k with ⟨hv, k⟩ | ⟨t, xs, rfl, ht, hit, k⟩
    · rcases hv with rfl | ⟨i, rfl⟩ | ⟨x, rfl⟩ | ⟨p, xs, rfl, hp⟩
      · exact ⟨_, rfl, _, _, _, _, false, rfl, .ty _, .base .non, kit_ty (by decide +kernel), false, rfl, iteF (k H2 t2)⟩
      · exact ⟨_, rfl, _, _, _, _, false, rfl, .ty _, .base (.int i), kit_ty (by decide +kernel), false, rfl, iteF (k H2 t2)⟩
      · exact ⟨_, rfl, _, _, _, _, false, rfl, .ty _, .base (.str x), kit_ty (by decide +kernel), false, rfl, iteF (k H2 t2)⟩
      · exact ⟨_, rfl, _, _, _, _, false, rfl, .ty _, .base (.lst (t2 _ _ hp)), kit_ty (by decide +kernel), false, rfl, iteF (k H2 t2)⟩
    · have ht2 := t2 _ _ ht
      have hl2 := t2 _ _ hl
      refine ⟨_, rfl, _, _, _, _, true, rfl, .ty _, .base (.tup ht2), kit_ty (by decide +kernel), true, rfl, iteT ?_⟩
      refine ⟨_, rfl, _, rfl, a, t, B, xs, rfl, hb.same t2, bo, ht2, fun x hx => (hit x hx).same t2, fun s S H3 p e1 hs s3 hp => ?_, fun i H3 z s3 => ?_⟩
      · refine ⟨_, rfl, _, _, .tup (SqT.of hp) (dpAll_nV S), .tup (SqT.of (s3 _ _ hl2)) (dpAll_nV W), shaped_tup S, shaped_tup W, ?_⟩
        rw [eqv_tup]
        refine k H3 _ (t2.trans s3) ?_
        rw [decide_eq_true_iff]
        constructor
        · rintro rfl
          exact ⟨s, e1, hs⟩
        · rintro ⟨s', e2, hs'⟩
          have := nVs_inj (e1.symm.trans e2)
          subst this
          exact hs.fn hs'
      · refine ⟨_, rfl, _, _, .int i, .tup (SqT.of (s3 _ _ hl2)) (dpAll_nV W), shaped_int i, shaped_tup W, ?_⟩
        have e : PyData.eqv (.int i) (.tuple (dI W)) = false := by rw [PyData.eqv]
        rw [e]
        refine k H3 _ (t2.trans s3) ⟨(fun q => Bool.noConfusion q), fun ⟨s, e1, hs⟩ => (z ⟨s, W, e1, hs⟩).elim⟩
end
end K1
namespace K1
open PySem PySem.Spec PyProof.Rows L2
section
variable {P : Program} {w : World} {K : PySem.W.Frag} {mg : Str → Option Value} {base : Heap}
/-! ### sorted of a tuple -/
section
variable {X : Cx}
def rSortTp (K : PySem.W.Frag) : List V → Hp → VK → Prop := fun vs H Q => ∃ (a : Addr) (xs : List Int), vs = [V.ref a] ∧ SqT K H a (xs.map V.int) ∧ xs.length < 64 ∧
  ∀ (zs : List Int) (p : Addr), zs.Perm xs → zs.Pairwise (· ≤ ·) → H p = none → Q (.ref p) (upd H p (.lst (zs.map V.int)))
theorem kc_sortTp (hK : X.K = K := by rfl) : CallR X (.builtin "sorted") (rSortTp K) := by
  subst hK
  rintro pins s σ H vs us Q I r ⟨a, xs, rfl, isT, lt, q⟩
  obtain ⟨its, rv, ⟨ob, gt, cls, n, data⟩, _⟩ := I.tuple isT
  rw [Vals.ref1 r]
  have ii := rv.ints
  have il : its.length < 64 := by rw [ii.length]; exact lt
  have il2 : its.length ≤ sizeLine := Nat.le_trans (Nat.le_of_lt il) (by decide)
  refine Calls.call_function_entry kind_sorted plain_sorted entry_sorted
    (args_sorted1 _) ?_
  unfold Builtin.«sorted»
  refine wpAny_bind (m := checkCount "sorted" 1 1 _) ?_
  refine wpAny_pure ?_
  refine wpAny_bind (wpAny_collect_seq (A := X.A.in1) a (.inr rfl) gt cls data (fun h2 keep => ?_) (by rw [List.size_toArray]; exact il2))
  have I1 : Inv X pins σ H { s with heap := h2 } := I.kept (t' := s.toks) keep
  show wpAny _ _ (newList its >>= _) _ _ _
  refine wpAny_bind (wpAny_newList ?_ il2)
  have fresh : (h2.push (seqObj "list" its.toArray 0)).get? h2.objs.size = some (seqObj "list" its.toArray 0) := Heap.get?_push_size _ rfl
  have srt := fun out zs (g1 : IntsAre out.toList zs) (g2 : zs.Perm xs) (g3 : zs.Pairwise (· ≤ ·)) => sortedHeap_at (vs := its) (out := out) fresh
  refine wpAny_bind (wpAny_holding (wpAny_call_entry slot_list_sort ⟨_, fresh, rfl⟩ entry_list_sort
    (list_sort_tree (s := { s with heap := h2.push (seqObj "list" its.toArray 0) }) fresh ii il fun out zs g1 g2 g3 => ⟨_, rfl, ?_⟩) (args_list_sort _)))
  obtain ⟨e2, at2⟩ := srt out zs g1 g2 g3
  have small : (zs.map V.int).length ≤ sizeLine := by
    rw [List.length_map, List.Perm.length_eq g2]
    exact small64 lt
  refine wpAny_pure ⟨_, rfl, .ref h2.objs.size, upd H h2.objs.size (.lst (zs.map V.int)), I1.laid (t' := s.toks) (fun b u e => ?_) (Nat.le_refl _)
    (show ObjOk X.prog X.w _ _ _ (.lst (zs.map V.int)) from ⟨small, out.toList, e2, vals_of_ints g1, by rw [Array.toArray_toList]; exact at2⟩), rfl, q zs _ g2 g3 (I1.hok.fresh (Nat.le_refl _))⟩
  have lb : b < h2.objs.size := Heap.lt_size e
  rw [sortedHeap_old (Nat.ne_of_lt lb) (by rw [size_push']; exact Nat.lt_succ_of_lt lb)]
  refine Heap.get?_push_of_some _ ?_
  exact e
end
/-! ### _law_taken, _law_pick, _law_is -/
/-- the row of draws, the script untouched since a base heap -/
def RowB (K : PySem.W.Frag) (Hb H : Hp) (r : Addr) : Prop :=
  ∃ (sc : Addr) (ns : List Int) (i j k : Int), 0 ≤ i ∧ H r = some (.lst [.ref sc, .int i, .int j, .int k]) ∧ SB r Hb H ∧ ∀ H', SB r Hb H' → SqL K H' sc (ns.map V.int)
theorem RowB.ok {K : PySem.W.Frag} {Hb H : Hp} {r : Addr} (h : RowB K Hb H r) : RowOk K H r := by
  obtain ⟨sc, ns, i, j, k, h0, h1, hb, h2⟩ := h
  exact ⟨sc, ns, i, j, k, h0, h1, fun H' t => h2 H' (hb.trans t)⟩
theorem RowOk.b {K : PySem.W.Frag} {H : Hp} {r : Addr} (h : RowOk K H r) : RowB K H H r := by
  obtain ⟨sc, ns, i, j, k, h0, h1, h2⟩ := h
  exact ⟨sc, ns, i, j, k, h0, h1, SB.refl r H, h2⟩
theorem RowB.step {K : PySem.W.Frag} {Hb H H' : Hp} {r : Addr} (h : RowB K Hb H r) (e : H' r = H r) (s : SB r Hb H') : RowB K Hb H' r := by
  obtain ⟨sc, ns, i, j, k, h0, h1, hb, h2⟩ := h
  exact ⟨sc, ns, i, j, k, h0, e.trans h1, s, h2⟩
theorem RowB.sb {K : PySem.W.Frag} {Hb H : Hp} {r : Addr} (h : RowB K Hb H r) : SB r Hb H := by
  obtain ⟨sc, ns, i, j, k, h0, h1, hb, h2⟩ := h
  exact hb
theorem RowB.set {K : PySem.W.Frag} {Hb H : Hp} {r sc : Addr} {ns : List Int} {i j k : Int} (hb : SB r Hb H) (h2 : ∀ H', SB r Hb H' → SqL K H' sc (ns.map V.int)) (hi : 0 ≤ i) : RowB K Hb (upd H r (.lst [.ref sc, .int i, .int j, .int k])) r :=
  ⟨sc, ns, i, j, k, hi, upd_same, hb.trans (SB.upd r H _), h2⟩
def sp__law_takenB (K : PySem.W.Frag) : Sp := fun vs H Q _ => ∃ r many Hb, vs = [.ref r, .int many] ∧ RowB K Hb H r ∧ 1 ≤ many ∧ many ≤ 1000 ∧
  ∀ H' v, 0 ≤ v → v < many → SB r H H' → RowB K Hb H' r → Q (.int v) H'
theorem ok__law_takenB {f : Addr} {fd : FuncData} (T : Txt K mg) (d : Dn K mg "_law_taken" s__law_taken ["_law_row", "_law_many"] f fd) : FnOk P w K mg base CX0 1 f fd ["_law_row", "_law_many"] (sp__law_takenB K) := by
  refine d.F.ok sc__law_taken (fun vs H Q E h => ?_) (fun cdv A outer s H vs Q E hr h => ?_)
  · obtain ⟨r, many, Hb, rfl, hr0, hm1, hm2, k⟩ := h
    rfl
  · obtain ⟨r, many, Hb, rfl, hr0, hm1, hm2, k⟩ := h
    have nd := sc__law_taken.nd
    have hu := hu_of hr
    refine ⟨_, (pss_cons (ps_if (pt_cmpR op_gt (pe_ix (k_ixL (K := K)) (pv 0) pe_int (fun _ _ => rfl)) pe_int (by rfl))
        (pss_cons (ps_set (i := 2) nd rfl (Or.inl rfl) (pe_op op_mod (pe_callTy (T := "int") call_int1 (by rfl) T.bint (by decide +kernel) (pa_cons (pe_ix (k_ixL (K := K)) (pv 0) pe_int (fun _ _ => rfl)) pa_nil)) (pv 1)))
        (pss_cons (ps_asg (pe_op op_fdiv (pe_ix (k_ixL (K := K)) (pv 0) pe_int (fun _ _ => rfl)) (pv 1)) (pg_sub (pv 0) pe_int set_list))
        (pss_one (ps_ret (pv 2)))))
        pss_nil)
      (pss_cons (ps_asg (pe_op op_add (pe_ix (k_ixL (K := K)) (pv 0) pe_int (fun _ _ => rfl)) pe_int) (pg_sub (pv 0) pe_int set_list))
      (pss_cons (ps_if (pt_cmpR op_gt (pe_ix (k_ixL (K := K)) (pv 0) pe_int (fun _ _ => rfl)) (pe_callB (id := "len") (kc_len (K := K)) (by rfl) T.blen (by decide +kernel) (pa_cons (pe_ix (k_ixL (K := K)) (pv 0) pe_int (fun _ _ => rfl)) pa_nil)) (by rfl))
        (pss_cons (ps_asg (pe_op op_mod (pe_callTy (T := "int") call_int1 (by rfl) T.bint (by decide +kernel) (pa_cons (pe_op op_add (pe_op op_mul (pe_ix (k_ixL (K := K)) (pv 0) pe_int (fun _ _ => rfl)) pe_int) pe_int) pa_nil)) pe_int) (pg_sub (pv 0) pe_int set_list))
        (pss_one (ps_ret (pe_op op_mod (pe_callTy (T := "int") call_int1 (by rfl) T.bint (by decide +kernel) (pa_cons (pe_op op_fdiv (pe_ix (k_ixL (K := K)) (pv 0) pe_int (fun _ _ => rfl)) pe_int) pa_nil)) (pv 1)))))
        pss_nil)
      (pss_cons (ps_set (i := 3) nd rfl (Or.inl rfl) (pe_ix (k_ixL (K := K)) (pe_ix (k_ixL (K := K)) (pv 0) pe_int (fun _ _ => rfl)) (pe_op op_sub (pe_ix (k_ixL (K := K)) (pv 0) pe_int (fun _ _ => rfl)) pe_int) (fun _ _ => rfl)))
      (pss_cons (ps_asg (pe_op op_mod (pe_callTy (T := "int") call_int1 (by rfl) T.bint (by decide +kernel) (pa_cons (pe_op op_add (pe_op op_add (pe_op op_mul (pe_ix (k_ixL (K := K)) (pv 0) pe_int (fun _ _ => rfl)) pe_int) (pv 3)) pe_int) pa_nil)) pe_int) (pg_sub (pv 0) pe_int set_list))
      (pss_cons (ps_if (pt_cmpR op_ge (pv 3) (pe_op op_pow pe_int pe_int) (by rfl))
        (pss_one (ps_asg (pe_op op_fdiv (pv 3) (pv 1)) (pg_sub (pv 0) pe_int set_list)))
        pss_nil)
      (pss_one (ps_ret (pe_op op_mod (pe_callTy (T := "int") call_int1 (by rfl) T.bint (by decide +kernel) (pa_cons (pv 3) pa_nil)) (pv 1)))))))))), ?_⟩
    obtain ⟨sc, ns, i, j, g, hi, h1, hb, h2⟩ := hr0
    have mod1 : ∀ x : Int, 0 ≤ x % many ∧ x % many < many := fun x => ⟨Int.emod_nonneg _ (by omega), Int.emod_lt_of_pos _ (by omega)⟩
    refine ⟨_, rfl, r, _, 3, .int g, rfl, rfl, SqL.of h1, rfl, _, _, rfl, rfl, _, rfl, ?_⟩
    refine ite2 (fun z => ?_) (fun z => ?_)
    · refine ⟨_, rfl, r, _, 3, .int g, rfl, rfl, SqL.of h1, rfl, .inl ⟨_, rfl, _, rfl, _, _, rfl, rfl, by omega, ?_⟩⟩
      refine ⟨_, rfl, r, _, 3, .int g, rfl, rfl, SqL.of h1, rfl, _, rfl, _, _, rfl, rfl, ⟨by omega, by omega⟩, ?_⟩
      refine ⟨_, rfl, r, _, 3, 3, rfl, rfl, h1, rfl, ?_⟩
      exact ⟨_, rfl, k _ _ (mod1 _).1 (mod1 _).2 (SB.upd r H _) (RowB.set hb h2 hi)⟩
    · refine ⟨_, rfl, r, _, 1, .int i, rfl, rfl, SqL.of h1, rfl, _, _, rfl, rfl, ?_⟩
      refine ⟨_, rfl, r, _, 1, 1, rfl, rfl, h1, rfl, ?_⟩
      have s3 : SB r H (upd H r (.lst [.ref sc, .int (i + 1), .int j, .int g])) := SB.upd r H _
      have e3 : upd H r (.lst [.ref sc, .int (i + 1), .int j, .int g]) r = some (.lst [.ref sc, .int (i + 1), .int j, .int g]) := upd_same
      show _
      generalize hH3 : upd H r (.lst (List.set [.ref sc, .int i, .int j, .int g] 1 (.int (i + 1)))) = H3
      have hH3' : upd H r (.lst [.ref sc, .int (i + 1), .int j, .int g]) = H3 := hH3
      rw [hH3'] at s3 e3
      have hb3 : SB r Hb H3 := hb.trans s3
      have q3 := h2 H3 hb3
      refine ⟨_, rfl, r, _, 1, .int (i + 1), rfl, rfl, SqL.of e3, rfl, _, rfl, r, _, 0, .ref sc, rfl, rfl, SqL.of e3, rfl, sc, _, rfl, .inl q3, _, _, rfl, rfl, _, rfl, ?_⟩
      refine ite2 (fun z => ?_) (fun z => ?_)
      · refine ⟨_, rfl, r, _, 2, .int j, rfl, rfl, SqL.of e3, rfl, _, _, rfl, rfl, .inr ⟨by decide, by decide⟩, _, _, rfl, rfl, .inl ⟨_, rfl, _, _, rfl, rfl, by show (0 : Int) < 2147483647; decide, ?_⟩⟩
        refine ⟨_, rfl, r, _, 2, 2, rfl, rfl, e3, rfl, ?_⟩
        refine ⟨_, rfl, r, _, 2, _, rfl, rfl, SqL.of upd_same, rfl, _, _, rfl, rfl, ⟨by decide, by decide⟩, .inl ⟨_, rfl, _, rfl, _, _, rfl, rfl, by omega, ?_⟩⟩
        exact k _ _ (mod1 _).1 (mod1 _).2 (s3.trans (SB.upd r H3 _)) (RowB.set hb3 h2 (by omega))
      · have z' : ¬ ((((ns.map V.int).length : Nat) : Int) < i + 1) := fun y => z (decide_eq_true y)
        rw [List.length_map] at z'
        have hlt : i.toNat < ns.length := by omega
        have get : atI (ns.map V.int) (i + 1 - 1) = some (.int ns[i.toNat]) := by
          have e : i + 1 - 1 = ((i.toNat : Nat) : Int) := by omega
          rw [e]
          refine atI_nat ?_
          rw [List.getElem?_map, List.getElem?_eq_getElem hlt]
          rfl
        refine ⟨_, rfl, r, _, 0, .ref sc, rfl, rfl, SqL.of e3, rfl, _, rfl, r, _, 1, .int (i + 1), rfl, rfl, SqL.of e3, rfl, _, _, rfl, rfl, sc, _, _, _, rfl, rfl, q3, get, ?_⟩
        generalize ns[i.toNat] = c
        refine ⟨_, rfl, r, _, 2, .int j, rfl, rfl, SqL.of e3, rfl, _, _, rfl, rfl, .inr ⟨by decide, by decide⟩, _, rfl, _, _, rfl, rfl, _, _, rfl, rfl, .inl ⟨_, rfl, _, _, rfl, rfl, by show (0 : Int) < 2147483647; decide, ?_⟩⟩
        refine ⟨_, rfl, r, _, 2, 2, rfl, rfl, e3, rfl, ?_⟩
        refine ⟨_, rfl, _, _, rfl, rfl, ⟨by decide, by decide, by decide⟩, _, _, rfl, rfl, _, rfl, ?_⟩
        refine ite2 (fun z => ?_) (fun z => ?_)
        · refine ⟨_, rfl, _, rfl, _, _, rfl, rfl, ⟨by omega, by omega⟩, ?_⟩
          refine ⟨_, rfl, r, _, 3, 3, rfl, rfl, upd_same, rfl, ?_⟩
          refine ⟨_, rfl, .inl ⟨_, rfl, _, rfl, _, _, rfl, rfl, by omega, ?_⟩⟩
          refine k _ _ (mod1 _).1 (mod1 _).2 ((s3.trans (SB.upd r H3 _)).trans (SB.upd r _ _)) ?_
          exact RowB.set (hb3.trans (SB.upd r H3 _)) h2 (by omega)
        · refine ⟨_, rfl, .inl ⟨_, rfl, _, rfl, _, _, rfl, rfl, by omega, ?_⟩⟩
          exact k _ _ (mod1 _).1 (mod1 _).2 (s3.trans (SB.upd r H3 _)) (RowB.set hb3 h2 (by omega))
def sp__law_taken (K : PySem.W.Frag) : Sp := fun vs H Q _ => ∃ r many, vs = [.ref r, .int many] ∧ RowOk K H r ∧ 1 ≤ many ∧ many ≤ 1000 ∧
  ∀ H' v, 0 ≤ v → v < many → SB r H H' → RowOk K H' r → Q (.int v) H'
theorem ok__law_taken {f : Addr} {fd : FuncData} (T : Txt K mg) (d : Dn K mg "_law_taken" s__law_taken ["_law_row", "_law_many"] f fd) : FnOk P w K mg base CX0 1 f fd ["_law_row", "_law_many"] (sp__law_taken K) := by
  refine (ok__law_takenB T d).imp fun vs H Q E h => ?_
  obtain ⟨r, many, e, ro, h1, h2, k⟩ := h
  exact ⟨r, many, H, e, ro.b, h1, h2, fun H' v a b s rb => k H' v a b s rb.ok⟩
def sp__law_pick (K : PySem.W.Frag) : Sp := fun vs H Q _ => ∃ r t xs, vs = [.ref r, .ref t] ∧ RowOk K H r ∧ t ≠ r ∧ H t = some (.lst xs) ∧ xs ≠ [] ∧ xs.length ≤ 1000 ∧ ∀ H' x, x ∈ xs → SB r H H' → RowOk K H' r → Q x H'
theorem ok__law_pick {f : Addr} {fd : FuncData} (T : Txt K mg) (d : Dn K mg "_law_pick" s__law_pick ["_law_row", "_law_things"] f fd) : FnOk P w K mg base CX0 2 f fd ["_law_row", "_law_things"] (sp__law_pick K) := by
  obtain ⟨f__law_taken, fd__law_taken, d__law_taken⟩ := T.h__law_taken
  have g__law_taken : FnOk P w K mg base CX0 1 f__law_taken fd__law_taken ["_law_row", "_law_many"] (sp__law_taken K) := ok__law_taken T d__law_taken
  refine d.F.ok sc__law_pick (fun vs H Q E h => ?_) (fun cdv A outer s H vs Q E hr h => ?_)
  · obtain ⟨r, t, xs, rfl, hr0, hne, ht, hx, hlen, k⟩ := h
    rfl
  · obtain ⟨r, t, xs, rfl, hr0, hne, ht, hx, hlen, k⟩ := h
    have nd := sc__law_pick.nd
    have hu := hu_of hr
    refine ⟨_, (pss_one (ps_ret (pe_ix (k_ixL (K := K)) (pv 1) (pe_call g__law_taken (hr.mono (by decide)) (by rfl) d__law_taken.g d__law_taken.F.kp d__law_taken.b .nil pass0 (pa_cons (pv 0) (pa_cons (pe_callB (id := "len") (kc_len (K := K)) (by rfl) T.blen (by decide +kernel) (pa_cons (pv 1) pa_nil)) pa_nil))) (fun _ _ => rfl)))), ?_⟩
    have hpos : 0 < xs.length := List.length_pos_iff.mpr hx
    refine ⟨_, rfl, _, rfl, _, rfl, t, _, rfl, .inl (SqL.of ht), r, _, rfl, hr0, by omega, by omega, fun H' v h0 h1 sb ro => ?_⟩
    have hlt : v.toNat < xs.length := by omega
    have get : atI xs v = some xs[v.toNat] := by
      have e : ((v.toNat : Nat) : Int) = v := by omega
      have g := atI_nat (List.getElem?_eq_getElem hlt)
      rw [e] at g
      exact g
    exact ⟨t, xs, v, _, rfl, rfl, SqL.of (sb _ _ hne ht), get, k H' _ (List.getElem_mem hlt) sb ro⟩
def sp__law_is (K : PySem.W.Frag) : Sp := fun vs H Q _ => ∃ a b, vs = [.bl a, .bl b] ∧ Q (.bl (decide (a = b))) H
theorem ok__law_is {f : Addr} {fd : FuncData} (T : Txt K mg) (d : Dn K mg "_law_is" s__law_is ["_law_found", "_law_due"] f fd) : FnOk P w K mg base CX0 1 f fd ["_law_found", "_law_due"] (sp__law_is K) := by
  refine d.F.ok sc__law_is (fun vs H Q E h => ?_) (fun cdv A outer s H vs Q E hr h => ?_)
  · obtain ⟨a, b, rfl, k⟩ := h
    rfl
  · obtain ⟨a, b, rfl, k⟩ := h
    have nd := sc__law_is.nd
    have hu := hu_of hr
    refine ⟨_, (pss_one (ps_ret (pe_and (pe_callB (id := "isinstance") (kc_isi (K := K)) (by rfl) T.bisinstance (by decide +kernel) (pa_cons (pv 0) (pa_cons (pe_bltn (v := .ty "bool") (by rfl) T.bbool (by decide +kernel) rfl) pa_nil))) (pe_one (pe_cmpR op_eq (pv 0) (pv 1) (by rfl)))))), ?_⟩
    refine ⟨_, rfl, _, _, _, _, true, rfl, .ty _, .base (.bl a), kit_ty (by decide +kernel), true, rfl, iteT ?_⟩
    refine ⟨_, rfl, _, rfl, rfl, q_bl ?_ k⟩
    exact decide_eq_decide.mpr ⟨V.bl.inj, congrArg V.bl⟩
/-! ### _law_rows, _law_columns, _law_with -/
def sp__law_rows (K : PySem.W.Frag) : Sp := fun vs H Q _ => ∃ a l B S, vs = [.ref a, .ref l] ∧ BoardAt H B a ∧ BoardOk B ∧ H l = some (.tup (S.map nV)) ∧
  ∀ H' p, Same H H' → H p = none → H' p = some (.lst ((rowsL B S).map nV)) → Q (.ref p) H'
theorem ok__law_rows {f : Addr} {fd : FuncData} (T : Txt K mg) (d : Dn K mg "_law_rows" s__law_rows ["_law_board_here", "_law_lot_here"] f fd) : FnOk P w K mg base CX0 1 f fd ["_law_board_here", "_law_lot_here"] (sp__law_rows K) := by
  refine d.F.ok sc__law_rows (fun vs H Q E h => ?_) (fun cdv A outer s H vs Q E hr h => ?_)
  · obtain ⟨a, l, B, S, rfl, hb, bo, hl, k⟩ := h
    rfl
  · obtain ⟨a, l, B, S, rfl, hb, bo, hl, k⟩ := h
    have nd := sc__law_rows.nd
    have hu := hu_of hr
    refine ⟨_, (pss_one (ps_ret (pe_lc (own := [("_law_one", 2)]) rfl nd (pi_range1 (by rfl) T.brange (pa_cons (pe_callB (id := "len") (kc_len (K := K)) (by rfl) T.blen (by decide +kernel) (pa_cons (pv 0) pa_nil)) pa_nil)) (blkOk_by (N := ["_law_board_here", "_law_lot_here", "_law_one"]) (sc := defScope s__law_rows) (by decide +kernel)) (fun _ _ _ _ _ => pg_name (i := 2) nd rfl (Or.inl rfl)) (fun _ _ _ _ _ => pts_one (pt_cmpR (k_notIn (K := K)) (pv 2) (pv 1) (by rfl))) (fun _ _ _ _ _ => (pv 2))))), ?_⟩
    have b6 := bo.h6
    obtain ⟨rs, h1, h2⟩ := hb.len
    refine ⟨_, rfl, a, _, rfl, .inr (SqT.of h1), (hB B : Int), by rw [h2], by omega, by omega, fun D nD => ?_⟩
    refine lcF (L := List.range (hB B)) (F := nV) walk_range0 nD (by rw [List.length_range]; omega) (fun x => decide (x ∉ S)) nV (fun _ _ => trivial) (fun _ => rfl) ?_ ?_ ?_
    · intro x hx H2 R t kk
      refine ⟨_, rfl, _, rfl, l, _, rfl, .inr (SqT.of (t _ _ hl)), rfl, flat_nVs S, _, rfl, ?_⟩
      rw [inV_nV]
      have e : (!decide (x ∈ S)) = decide (x ∉ S) := by simp
      have : R (decide (x ∉ S)) H2 := kk H2 (Same.refl _)
      rw [← e] at this
      exact this
    · intro x hx _ H2 R t kk
      exact ⟨_, rfl, kk H2 (Same.refl _)⟩
    · intro H1 s1 hD
      exact k H1 D s1 nD hD
def sp__law_columns (K : PySem.W.Frag) : Sp := fun vs H Q _ => ∃ a l B S, vs = [.ref a, .ref l] ∧ BoardAt H B a ∧ BoardOk B ∧ H l = some (.tup (S.map nV)) ∧
  ∀ H' p, Same H H' → H p = none → H' p = some (.lst ((colsL B S).map nV)) → Q (.ref p) H'
theorem ok__law_columns {f : Addr} {fd : FuncData} (T : Txt K mg) (d : Dn K mg "_law_columns" s__law_columns ["_law_board_here", "_law_lot_here"] f fd) : FnOk P w K mg base CX0 1 f fd ["_law_board_here", "_law_lot_here"] (sp__law_columns K) := by
  refine d.F.ok sc__law_columns (fun vs H Q E h => ?_) (fun cdv A outer s H vs Q E hr h => ?_)
  · obtain ⟨a, l, B, S, rfl, hb, bo, hl, k⟩ := h
    rfl
  · obtain ⟨a, l, B, S, rfl, hb, bo, hl, k⟩ := h
    have nd := sc__law_columns.nd
    have hu := hu_of hr
    refine ⟨_, (pss_one (ps_ret (pe_lc (own := [("_law_one", 2)]) rfl nd (pi_range2 (by rfl) T.brange (pa_cons (pe_callB (id := "len") (kc_len (K := K)) (by rfl) T.blen (by decide +kernel) (pa_cons (pv 0) pa_nil)) (pa_cons (pe_op op_add (pe_callB (id := "len") (kc_len (K := K)) (by rfl) T.blen (by decide +kernel) (pa_cons (pv 0) pa_nil)) (pe_callB (id := "len") (kc_len (K := K)) (by rfl) T.blen (by decide +kernel) (pa_cons (pe_ix (k_ixT (K := K)) (pv 0) pe_int (fun _ _ => rfl)) pa_nil))) pa_nil))) (blkOk_by (N := ["_law_board_here", "_law_lot_here", "_law_one"]) (sc := defScope s__law_columns) (by decide +kernel)) (fun _ _ _ _ _ => pg_name (i := 2) nd rfl (Or.inl rfl)) (fun _ _ _ _ _ => pts_one (pt_cmpR (k_notIn (K := K)) (pv 2) (pv 1) (by rfl))) (fun _ _ _ _ _ => (pv 2))))), ?_⟩
    have b6 := bo.h6
    have w6 := bo.w6
    obtain ⟨rs, qs, r, h1, h2, h3, h4, h5⟩ := hb.row0 bo
    have h2' : (rs.map V.ref).length = hB B := by rw [List.length_map]; exact h2
    have h5' : (qs.map V.ref).length = wB B := by rw [List.length_map]; exact h5
    refine ⟨_, rfl, a, _, rfl, .inr (SqT.of h1), _, rfl, a, _, rfl, .inr (SqT.of h1), _, rfl, a, _, (0 : Nat), .ref r, rfl, rfl, SqT.of h1, atI_nat h3, r, _, rfl, .inr (SqT.of h4), _, _, rfl, rfl, ?_⟩
    refine ⟨(hB B : Int), (hB B : Int) + (wB B : Int), by rw [h2', h5'], ⟨by omega, by omega, by omega, by omega⟩, ?_⟩
    have e : ((hB B : Int) + (wB B : Int) - (hB B : Int)).toNat = wB B := by omega
    rw [e]
    intro D nD
    refine lcF (L := List.range' (hB B) (wB B)) (F := nV) walk_rangeAt nD (by rw [List.length_range']; omega) (fun x => decide (x ∉ S)) nV (fun _ _ => trivial) (fun _ => rfl) ?_ ?_ ?_
    · intro x hx H2 R t kk
      refine ⟨_, rfl, _, rfl, l, _, rfl, .inr (SqT.of (t _ _ hl)), rfl, flat_nVs S, _, rfl, ?_⟩
      rw [inV_nV]
      have e : (!decide (x ∈ S)) = decide (x ∉ S) := by simp
      have : R (decide (x ∉ S)) H2 := kk H2 (Same.refl _)
      rw [← e] at this
      exact this
    · intro x hx _ H2 R t kk
      exact ⟨_, rfl, kk H2 (Same.refl _)⟩
    · intro H1 s1 hD
      exact k H1 D s1 nD hD
def sp__law_with (K : PySem.W.Frag) : Sp := fun vs H Q _ => ∃ l S x, vs = [.ref l, nV x] ∧ H l = some (.tup (S.map nV)) ∧ S.Pairwise (· < ·) ∧ x ∉ S ∧ S.length ≤ 60 ∧
  ∀ H' p, Same H H' → H p = none → H' p = some (.tup ((insL x S).map nV)) → Q (.ref p) H'
theorem cat_one {K : PySem.W.Frag} {l : Addr} {S : List Nat} {x : V} {H : Hp} {Q : VK} (hl : H l = some (.tup (S.map nV))) (hlen : S.length ≤ 60) (k : ∀ H' p, Same H H' → H p = none → H' p = some (.tup (S.map nV ++ [x])) → Q (.ref p) H') :
    ∀ q, H q = none → rCatA K (.ref l) (.ref q) (upd H q (.tup [x])) Q := by
  intro q hq
  have s1 : Same H (upd H q (.tup [x])) := same_new hq
  refine ⟨l, q, _, _, rfl, rfl, SqT.of (s1 _ _ hl), SqT.of upd_same, ?_, fun e => ?_, (fun _ e => by cases e), fun _ _ p hp => ?_⟩
  · rw [List.length_map]
    exact len_small (by simp; omega)
  · refine k _ q s1 hq ?_
    rw [upd_same, e]
    rfl
  · exact k _ p (same_upd s1 (s1.free hp)) (s1.free hp) upd_same
theorem ok__law_with {f : Addr} {fd : FuncData} (T : Txt K mg) (d : Dn K mg "_law_with" s__law_with ["_law_lot_here", "_law_line"] f fd) : FnOk P w K mg base CX0 1 f fd ["_law_lot_here", "_law_line"] (sp__law_with K) := by
  refine d.F.ok sc__law_with (fun vs H Q E h => ?_) (fun cdv A outer s H vs Q E hr h => ?_)
  · obtain ⟨l, S, x, rfl, hl, up, hx, hlen, k⟩ := h
    rfl
  · obtain ⟨l, S, x, rfl, hl, up, hx, hlen, k⟩ := h
    have nd := sc__law_with.nd
    have hu := hu_of hr
    refine ⟨_, (pss_one (ps_ret (pe_callTy (T := "tuple") (kc_tuple (K := K)) (by rfl) T.btuple (by decide +kernel) (pa_cons (pe_callB (id := "sorted") (kc_sortTp (K := K)) (by rfl) T.bsorted (by decide +kernel) (pa_cons (pe_op (k_catA (K := K)) (pv 0) (pe_tup (pa_cons (pv 1) pa_nil))) pa_nil)) pa_nil)))), ?_⟩
    refine ⟨_, rfl, _, rfl, by show 1 ≤ sizeLine; decide, ?_⟩
    refine cat_one hl hlen fun H1 q s1 nq hq => ?_
    have e0 : S.map nV ++ [nV x] = ((S ++ [x]).map fun n : Nat => (n : Int)).map V.int := by rw [List.map_map, List.map_append]; rfl
    rw [e0] at hq
    refine ⟨q, (S ++ [x]).map fun n : Nat => (n : Int), rfl, SqT.of hq, by rw [List.length_map, List.length_append]; simp; omega, fun ns p2 pm sr hp2 => ?_⟩
    refine ⟨p2, _, rfl, .inl ⟨SqL.of upd_same, fun r hr1 => ?_⟩⟩
    have pS : (S ++ [x]).Perm (insL x S) := (List.perm_append_comm (l₁ := S) (l₂ := [x])).trans (insL_perm x S).symm
    have t1 : Same H (upd H1 p2 (.lst (ns.map V.int))) := s1.trans (same_new hp2)
    refine k _ r (t1.trans (same_new hr1)) (t1.free hr1) ?_
    rw [upd_same, sorted_ints (insL_lt x S hx up) pS pm sr]
end
end K1
namespace K1
open PySem PySem.Spec PyProof.Rows L2
section
variable {P : Program} {w : World} {K : PySem.W.Frag} {mg : Str → Option Value} {base : Heap}
/-! ### _law_numbers -/
def sp__law_numbers (K : PySem.W.Frag) : Sp := fun vs H Q _ => ∃ a l B S n, vs = [.ref a, .ref l, nV n] ∧ BoardAt H B a ∧ BoardOk B ∧ H l = some (.tup (S.map nV)) ∧ n < nB B ∧
  ∀ H' p, Same H H' → H p = none → H' p = some (.lst ((nums B S n).map V.int)) → Q (.ref p) H'
theorem ok__law_numbers {f : Addr} {fd : FuncData} (T : Txt K mg) (d : Dn K mg "_law_numbers" s__law_numbers ["_law_board_here", "_law_lot_here", "_law_line"] f fd) : FnOk P w K mg base CX0 2 f fd ["_law_board_here", "_law_lot_here", "_law_line"] (sp__law_numbers K) := by
  obtain ⟨f__law_columns, fd__law_columns, d__law_columns⟩ := T.h__law_columns
  have g__law_columns : FnOk P w K mg base CX0 1 f__law_columns fd__law_columns ["_law_board_here", "_law_lot_here"] (sp__law_columns K) := ok__law_columns T d__law_columns
  obtain ⟨f__law_rows, fd__law_rows, d__law_rows⟩ := T.h__law_rows
  have g__law_rows : FnOk P w K mg base CX0 1 f__law_rows fd__law_rows ["_law_board_here", "_law_lot_here"] (sp__law_rows K) := ok__law_rows T d__law_rows
  refine d.F.ok sc__law_numbers (fun vs H Q E h => ?_) (fun cdv A outer s H vs Q E hr h => ?_)
  · obtain ⟨a, l, B, S, n, rfl, hb, bo, hl, hn, k⟩ := h
    rfl
  · obtain ⟨a, l, B, S, n, rfl, hb, bo, hl, hn, k⟩ := h
    have nd := sc__law_numbers.nd
    have hu := hu_of hr
    refine ⟨_, (pss_cons (ps_if (pt_cmpR op_lt (pv 2) (pe_callB (id := "len") (kc_len (K := K)) (by rfl) T.blen (by decide +kernel) (pa_cons (pv 0) pa_nil)) (by rfl))
        (pss_one (ps_ret (pe_lc (own := [("_law_one", 3)]) rfl nd (k_piL (K := K) (pe_call g__law_columns (hr.mono (by decide)) (by rfl) d__law_columns.g d__law_columns.F.kp d__law_columns.b .nil pass0 (pa_cons (pv 0) (pa_cons (pv 1) pa_nil)))) (blkOk_by (N := ["_law_board_here", "_law_lot_here", "_law_line", "_law_one"]) (sc := defScope s__law_numbers) (by decide +kernel)) (fun _ _ _ _ _ => pg_name (i := 3) nd rfl (Or.inl rfl)) (fun _ _ _ _ _ => pts_nil) (fun _ _ _ _ _ => (pe_ix (k_ixT (K := K)) (pe_ix (k_ixT (K := K)) (pe_ix (k_ixT (K := K)) (pv 0) (pv 2) (fun _ _ => rfl)) (pe_op op_sub (pv 3) (pe_callB (id := "len") (kc_len (K := K)) (by rfl) T.blen (by decide +kernel) (pa_cons (pv 0) pa_nil))) (fun _ _ => rfl)) pe_int (fun _ _ => rfl))))))
        pss_nil)
      (pss_one (ps_ret (pe_lc (own := [("_law_one", 3)]) rfl nd (k_piL (K := K) (pe_call g__law_rows (hr.mono (by decide)) (by rfl) d__law_rows.g d__law_rows.F.kp d__law_rows.b .nil pass0 (pa_cons (pv 0) (pa_cons (pv 1) pa_nil)))) (blkOk_by (N := ["_law_board_here", "_law_lot_here", "_law_line", "_law_one"]) (sc := defScope s__law_numbers) (by decide +kernel)) (fun _ _ _ _ _ => pg_name (i := 3) nd rfl (Or.inl rfl)) (fun _ _ _ _ _ => pts_nil) (fun _ _ _ _ _ => (pe_ix (k_ixT (K := K)) (pe_ix (k_ixT (K := K)) (pe_ix (k_ixT (K := K)) (pv 0) (pv 3) (fun _ _ => rfl)) (pe_op op_sub (pv 2) (pe_callB (id := "len") (kc_len (K := K)) (by rfl) T.blen (by decide +kernel) (pa_cons (pv 0) pa_nil))) (fun _ _ => rfl)) pe_int (fun _ _ => rfl))))))), ?_⟩
    have n1 : nB B = hB B + wB B := rfl
    obtain ⟨rs, h1, h2⟩ := hb.len
    refine ⟨_, rfl, _, rfl, a, _, rfl, .inr (SqT.of h1), _, _, rfl, rfl, _, rfl, ?_⟩
    rw [h2]
    by_cases q : n < hB B
    · rw [decide_eq_true (show (n : Int) < (hB B : Int) by omega)]
      refine iteT ⟨_, rfl, _, rfl, a, l, B, S, rfl, hb, bo, hl, fun H1 c s1 nc hc1 => ⟨c, rfl, ⟨_, SqL.of hc1⟩, fun D nD => ?_⟩⟩
      have hb1 := hb.same s1
      refine lcF (L := colsL B S) (F := nV) walk_listM nD (by have := cols_len B bo S; omega) (fun _ => true) (fun x => .int (cA B n (x - hB B))) (fun H2 t => SqL.of (t _ _ hc1)) (fun _ => rfl) (fun _ _ H2 R _ kk => kk H2 (Same.refl _)) ?_ ?_
      · intro x hx _ H2 R t kk
        have hx2 := (mem_colsL.mp hx).1
        obtain ⟨rs2, qs, r2, q2, g1, g2, g3, g4, g5⟩ := (hb1.same t).cell bo (i := n) (j := x - hB B) q (by omega)
        obtain ⟨rs3, f1, f2⟩ := (hb1.same t).len
        refine ⟨_, rfl, _, rfl, a, _, (n : Int), .ref r2, rfl, rfl, SqT.of g1, atI_nat g2, ?_⟩
        refine ⟨_, rfl, _, rfl, a, _, rfl, .inr (SqT.of f1), _, _, rfl, rfl, ?_⟩
        have e : (x : Int) - ((rs3.map V.ref).length : Int) = ((x - hB B : Nat) : Int) := by rw [f2]; omega
        refine ⟨r2, _, _, .ref q2, rfl, rfl, SqT.of g3, by rw [e]; exact atI_nat g4, ?_⟩
        exact ⟨q2, _, (0 : Nat), .int (cA B n (x - hB B)), rfl, rfl, SqT.of g5, atI_nat rfl, kk H2 (Same.refl _)⟩
      · intro H2 s2 hD
        refine k H2 D (s1.trans s2) (s1.free nD) ?_
        rw [hD, filter_yes]
        unfold nums
        rw [if_pos q, List.map_map]
        rfl
    · rw [decide_eq_false (show ¬ (n : Int) < (hB B : Int) by omega)]
      refine iteF ⟨_, rfl, _, rfl, a, l, B, S, rfl, hb, bo, hl, fun H1 r s1 nr hr1 => ⟨r, rfl, ⟨_, SqL.of hr1⟩, fun D nD => ?_⟩⟩
      have hb1 := hb.same s1
      refine lcF (L := rowsL B S) (F := nV) walk_listM nD (by have := rows_len B bo S; omega) (fun _ => true) (fun x => .int (cB B x (n - hB B))) (fun H2 t => SqL.of (t _ _ hr1)) (fun _ => rfl) (fun _ _ H2 R _ kk => kk H2 (Same.refl _)) ?_ ?_
      · intro x hx _ H2 R t kk
        have hx2 := (mem_rowsL.mp hx).1
        obtain ⟨rs2, qs, r2, q2, g1, g2, g3, g4, g5⟩ := (hb1.same t).cell bo (i := x) (j := n - hB B) hx2 (by omega)
        obtain ⟨rs3, f1, f2⟩ := (hb1.same t).len
        refine ⟨_, rfl, _, rfl, a, _, (x : Int), .ref r2, rfl, rfl, SqT.of g1, atI_nat g2, ?_⟩
        refine ⟨_, rfl, _, rfl, a, _, rfl, .inr (SqT.of f1), _, _, rfl, rfl, ?_⟩
        have e : (n : Int) - ((rs3.map V.ref).length : Int) = ((n - hB B : Nat) : Int) := by rw [f2]; omega
        refine ⟨r2, _, _, .ref q2, rfl, rfl, SqT.of g3, by rw [e]; exact atI_nat g4, ?_⟩
        exact ⟨q2, _, (1 : Nat), .int (cB B x (n - hB B)), rfl, rfl, SqT.of g5, atI_nat rfl, kk H2 (Same.refl _)⟩
      · intro H2 s2 hD
        refine k H2 D (s1.trans s2) (s1.free nD) ?_
        rw [hD, filter_yes]
        unfold nums
        rw [if_neg q, List.map_map]
        rfl
/-! ### _law_over -/
def badL (xs ys : List Int) : List Nat := (List.range xs.length).filter fun i => decide (ys.getD i 0 ≤ xs.getD i 0)
theorem badL_iff : ∀ xs ys : List Int, xs.length = ys.length → (badL xs ys = [] ↔ ((xs.zip ys).map fun p => decide (p.1 < p.2)).all id = true) := by
  intro xs ys hl
  unfold badL
  rw [List.filter_eq_nil_iff, List.all_map, List.all_eq_true]
  constructor
  · intro h p hp
    obtain ⟨i, hi, e⟩ := List.getElem_of_mem hp
    rw [List.length_zip] at hi
    have h1 : i < xs.length := by omega
    have h2 : i < ys.length := by omega
    rw [List.getElem_zip] at e
    have := h i (List.mem_range.mpr h1)
    rw [List.getD_eq_getElem?_getD, List.getD_eq_getElem?_getD, List.getElem?_eq_getElem h1, List.getElem?_eq_getElem h2] at this
    have this' : ¬ (ys[i] ≤ xs[i]) := fun z => this (decide_eq_true z)
    rw [← e]
    exact decide_eq_true (by show xs[i] < ys[i]; omega)
  · intro h i hi z
    have h1 := List.mem_range.mp hi
    have h2 : i < ys.length := by omega
    have hz : i < (xs.zip ys).length := by rw [List.length_zip]; omega
    have := h _ (List.getElem_mem hz)
    rw [List.getElem_zip] at this
    have t1 : xs[i] < ys[i] := of_decide_eq_true this
    have z1 := of_decide_eq_true z
    rw [List.getD_eq_getElem?_getD, List.getD_eq_getElem?_getD, List.getElem?_eq_getElem h1, List.getElem?_eq_getElem h2] at z1
    have z2 : ys[i] ≤ xs[i] := z1
    omega
theorem side_lt {B : Board} {S : List Nat} {n x : Nat} (hn : n < nB B) (h : x ∈ sideL B S n) : x < nB B ∧ (n < hB B ↔ x < hB B) := by
  have n1 : nB B = hB B + wB B := rfl
  unfold sideL at h
  split at h
  · have := (mem_rowsL.mp h).1
    omega
  · have := (mem_colsL.mp h).1
    omega
theorem side_len {B : Board} (bo : BoardOk B) (S : List Nat) (n : Nat) : (sideL B S n).length ≤ 6 := by
  unfold sideL
  split
  · exact rows_len B bo S
  · exact cols_len B bo S
def sp__law_over (K : PySem.W.Frag) : Sp := fun vs H Q _ => ∃ a l B S n, vs = [.ref a, .ref l, nV n] ∧ BoardAt H B a ∧ BoardOk B ∧ H l = some (.tup (S.map nV)) ∧ n < nB B ∧
  ∀ H' p, Same H H' → H p = none → H' p = some (.lst ((overL B S n).map nV)) → Q (.ref p) H'
theorem ok__law_over {f : Addr} {fd : FuncData} (T : Txt K mg) (d : Dn K mg "_law_over" s__law_over ["_law_board_here", "_law_lot_here", "_law_line"] f fd) : FnOk P w K mg base CX0 3 f fd ["_law_board_here", "_law_lot_here", "_law_line"] (sp__law_over K) := by
  obtain ⟨f__law_rows, fd__law_rows, d__law_rows⟩ := T.h__law_rows
  have g__law_rows : FnOk P w K mg base CX0 1 f__law_rows fd__law_rows ["_law_board_here", "_law_lot_here"] (sp__law_rows K) := ok__law_rows T d__law_rows
  obtain ⟨f__law_columns, fd__law_columns, d__law_columns⟩ := T.h__law_columns
  have g__law_columns : FnOk P w K mg base CX0 1 f__law_columns fd__law_columns ["_law_board_here", "_law_lot_here"] (sp__law_columns K) := ok__law_columns T d__law_columns
  obtain ⟨f__law_numbers, fd__law_numbers, d__law_numbers⟩ := T.h__law_numbers
  have g__law_numbers : FnOk P w K mg base CX0 2 f__law_numbers fd__law_numbers ["_law_board_here", "_law_lot_here", "_law_line"] (sp__law_numbers K) := ok__law_numbers T d__law_numbers
  refine d.F.ok sc__law_over (fun vs H Q E h => ?_) (fun cdv A outer s H vs Q E hr h => ?_)
  · obtain ⟨a, l, B, S, n, rfl, hb, bo, hl, hn, k⟩ := h
    rfl
  · obtain ⟨a, l, B, S, n, rfl, hb, bo, hl, hn, k⟩ := h
    have nd := sc__law_over.nd
    have hu := hu_of hr
    refine ⟨_, (pss_cons (ps_set (i := 3) nd rfl (Or.inl rfl) (pe_ifExp (pt_cmpR op_lt (pv 2) (pe_callB (id := "len") (kc_len (K := K)) (by rfl) T.blen (by decide +kernel) (pa_cons (pv 0) pa_nil)) (by rfl)) (pe_call g__law_rows (hr.mono (by decide)) (by rfl) d__law_rows.g d__law_rows.F.kp d__law_rows.b .nil pass0 (pa_cons (pv 0) (pa_cons (pv 1) pa_nil))) (pe_call g__law_columns (hr.mono (by decide)) (by rfl) d__law_columns.g d__law_columns.F.kp d__law_columns.b .nil pass0 (pa_cons (pv 0) (pa_cons (pv 1) pa_nil)))))
      (pss_cons (ps_asg (pe_tup (pa_cons (pe_call g__law_numbers (hr.mono (by decide)) (by rfl) d__law_numbers.g d__law_numbers.F.kp d__law_numbers.b .nil pass0 (pa_cons (pv 0) (pa_cons (pv 1) (pa_cons (pv 2) pa_nil)))) (pa_cons (pe_lst pa_nil) pa_nil))) (k_tup (K := K) (n := 2) rfl (pgs_cons (pg_name (i := 4) nd rfl (Or.inr rfl)) (pgs_cons (pg_name (i := 5) nd rfl (Or.inl rfl)) pgs_nil))))
      (pss_cons (ps_for PassesOwn.never rfl (k_piL (K := K) (pv 3)) (pg_name (i := 6) nd rfl (Or.inl rfl))
        (pss_cons (ps_set (i := 7) nd rfl (Or.inr rfl) (pe_call g__law_numbers (hr.mono (by decide)) (by rfl) d__law_numbers.g d__law_numbers.F.kp d__law_numbers.b .nil pass0 (pa_cons (pv 0) (pa_cons (pv 1) (pa_cons (pv 6) pa_nil)))))
        (pss_one (ps_if (pt_cmpR (k_eqD (K := K) hr.units) (pe_lc (own := [("_law_at", 8)]) rfl nd (pi_range1 (by rfl) T.brange (pa_cons (pe_callB (id := "len") (kc_len (K := K)) (by rfl) T.blen (by decide +kernel) (pa_cons (pv 4) pa_nil)) pa_nil)) (blkOk_by (N := ["_law_board_here", "_law_lot_here", "_law_line", "_law_side", "_law_own", "_law_found", "_law_other", "_law_told", "_law_at"]) (sc := defScope s__law_over) (by decide +kernel)) (fun _ _ _ _ _ => pg_name (i := 8) nd rfl (Or.inl rfl)) (fun _ _ _ _ _ => pts_one (pt_cmpR op_le (pe_ix (k_ixL (K := K)) (pv 7) (pv 8) (fun _ _ => rfl)) (pe_ix (k_ixL (K := K)) (pv 4) (pv 8) (fun _ _ => rfl)) (by rfl))) (fun _ _ _ _ _ => (pv 8))) (pe_lst pa_nil) (by rfl))
          (pss_one (ps_expr (pe_bm PySem.F.plainAttrs_list PySem.F.slot_list_append PySem.F.type_list_append mt_append (pv 5) (pa_cons (pv 6) pa_nil))))
          pss_nil))))
      (pss_one (ps_ret (pv 5)))))), ?_⟩
    obtain ⟨rs, h1, h2⟩ := hb.len
    refine ⟨_, rfl, _, rfl, a, _, rfl, .inr (SqT.of h1), _, _, rfl, rfl, _, rfl, ?_⟩
    rw [h2]
    have hdec : decide ((n : Int) < (hB B : Int)) = decide (n < hB B) := decide_eq_decide.mpr (by omega)
    rw [hdec]
    refine ite2 (fun z => ⟨_, rfl, _, rfl, a, l, B, S, rfl, hb, bo, hl, fun H1 sd s1 nsd hsd => ?_⟩) (fun z => ⟨_, rfl, _, rfl, a, l, B, S, rfl, hb, bo, hl, fun H1 sd s1 nsd hsd => ?_⟩)
    all_goals
      have hsd' : H1 sd = some (.lst ((sideL B S n).map nV)) := by
        rw [hsd]
        unfold sideL
        first
          | rw [if_pos (of_decide_eq_true z)]
          | rw [if_neg (fun y => z (decide_eq_true y))]
      clear hsd
      refine ⟨_, rfl, _, rfl, _, rfl, a, l, B, S, n, rfl, hb.same s1, bo, s1 _ _ hl, hn, fun H2 ow s2 now how => ?_⟩
      refine ⟨Nat.zero_le _, fun od hod => ⟨by show 2 ≤ sizeLine; decide, fun t0 ht0 => ?_⟩⟩
      have s3 : Same H2 (upd H2 od (.lst [])) := same_new hod
      have s4 : Same (upd H2 od (.lst [])) (upd (upd H2 od (.lst [])) t0 (.tup [.ref ow, .ref od])) := same_new ht0
      refine ⟨t0, _, rfl, SqT.of upd_same, rfl, _, _, rfl, _, _, rfl, rfl, ?_⟩
      generalize hH4 : upd (upd H2 od (.lst [])) t0 (.tup [.ref ow, .ref od]) = H4 at s4
      have s24 : Same H2 H4 := s3.trans s4
      have od4 : H4 od = some (.lst []) := s4 _ _ upd_same
      have sd2 := s2 _ _ hsd'
      have odH : H od = none := (s1.trans s2).free hod
      refine ⟨_, rfl, sd, rfl, ⟨_, SqL.of (s24 _ _ sd2)⟩, ?_⟩
      refine for_it (walk_listM (L := sideL B S n) (F := nV)) (fun i σ H' => ∃ v6 v7, σ = [some (.ref a), some (.ref l), some (nV n), some (.ref sd), some (.ref ow), some (.ref od), v6, v7, none] ∧ Same H2 H' ∧ H' od = some (.lst ((((sideL B S n).take i).filter fun o => gtB B S n o).map nV)))
        ⟨none, none, rfl, s24, od4⟩ (fun i σ H' _ ⟨_, _, _, s, _⟩ => SqL.of (s _ _ sd2)) ?_ ?_
      · rintro i v σ H5 H5' hi ⟨v6, v7, rfl, s5, o5⟩ ⟨rfl, hv⟩
        have ex : (sideL B S n)[i]? = some (sideL B S n)[i] := List.getElem?_eq_getElem hi
        generalize (sideL B S n)[i] = x at ex
        have hx : x ∈ sideL B S n := List.mem_of_getElem? ex
        obtain rfl : v = nV x := by
          rw [List.getElem?_map, ex] at hv
          exact (Option.some.inj hv).symm
        obtain ⟨hxn, hss⟩ := side_lt hn hx
        have b5 := ((hb.same s1).same s2).same s5
        have l5 := s5 _ _ (s2 _ _ (s1 _ _ hl))
        refine ⟨_, rfl, _, rfl, _, rfl, a, l, B, S, x, rfl, b5, bo, l5, hxn, fun H6 tl s6 ntl htl => ?_⟩
        have ow6 := s6 _ _ (s5 _ _ how)
        have len : (nums B S n).length = (nums B S x).length := nums_len_eq hss
        have len6 := nums_len B bo S n
        refine ⟨_, rfl, ow, _, rfl, .inl (SqL.of ow6), ((nums B S n).length : Int), by rw [List.length_map], by omega, by omega, fun D nD => ?_⟩
        refine lcF (L := List.range (nums B S n).length) (F := nV) walk_range0 nD (by rw [List.length_range]; omega) (fun j => decide ((nums B S x).getD j 0 ≤ (nums B S n).getD j 0)) nV (fun _ _ => trivial) (fun _ => rfl) ?_ ?_ ?_
        · intro j hj H7 R t kk
          have hj := List.mem_range.mp hj
          have hj2 : j < (nums B S x).length := by omega
          have g1 : ((nums B S x).map V.int)[j]? = some (.int ((nums B S x).getD j 0)) := by
            rw [List.getElem?_map, List.getElem?_eq_getElem hj2, List.getD_eq_getElem?_getD, List.getElem?_eq_getElem hj2]; rfl
          have g2 : ((nums B S n).map V.int)[j]? = some (.int ((nums B S n).getD j 0)) := by
            rw [List.getElem?_map, List.getElem?_eq_getElem hj, List.getD_eq_getElem?_getD, List.getElem?_eq_getElem hj]; rfl
          refine ⟨_, rfl, _, rfl, tl, _, _, _, rfl, rfl, SqL.of (t _ _ htl), atI_nat g1, ?_⟩
          refine ⟨_, rfl, _, rfl, ow, _, _, _, rfl, rfl, SqL.of (t _ _ ow6), atI_nat g2, ?_⟩
          exact ⟨_, _, rfl, rfl, _, rfl, kk H7 (Same.refl _)⟩
        · intro j hj _ H7 R t kk
          exact ⟨_, rfl, kk H7 (Same.refl _)⟩
        intro H7 s7 hD
        have eD : H7 D = some (.lst ((badL (nums B S n) (nums B S x)).map nV)) := hD
        refine ⟨Nat.zero_le _, fun e5 he5 => ?_⟩
        have u8 : Same H7 (upd H7 e5 (.lst [])) := same_new he5
        refine ⟨_, _, .lst (SqL.of (u8 _ _ eD)) (dpAll_nV _), .lst (SqL.of upd_same) (dpAll_nV []), shaped_lst _, shaped_lst [], _, rfl, ?_⟩
        rw [eqv_lst]
        have s68 := (s6.trans s7).trans u8
        have t8 := s5.trans s68
        have o8 := s68 _ _ o5
        have hgt : (badL (nums B S n) (nums B S x) = []) ↔ gtB B S n x = true := by rw [badL_iff _ _ len, nums_all hss]
        have htake : (sideL B S n).take (i + 1) = (sideL B S n).take i ++ [x] := by rw [List.take_add_one, ex]; rfl
        refine ite2 (fun z2 => ?_) (fun z2 => ?_)
        · have g := hgt.mp (of_decide_eq_true z2)
          refine ⟨_, rfl, .inl ⟨rfl, _, SqL.of o8⟩, _, rfl, od, _, _, rfl, rfl, o8, ?_, ?_⟩
          · rw [List.length_map]
            have m1 : (((sideL B S n).take i).filter fun o => gtB B S n o).length ≤ ((sideL B S n).take i).length := List.length_filter_le _ _
            have m2 := side_len bo S n
            rw [List.length_take] at m1
            exact small1000 (by omega)
          · refine ⟨_, _, rfl, same_upd t8 hod, ?_⟩
            rw [upd_same, htake, List.filter_append, List.filter_cons, g, List.map_append]
            rfl
        · have g : gtB B S n x = false := by
            cases h : gtB B S n x with
            | false => rfl
            | true => exact absurd (decide_eq_true (hgt.mpr h)) z2
          refine ⟨_, _, rfl, t8, ?_⟩
          rw [o8, htake, List.filter_append, List.filter_cons, g]
          simp
      · rintro σ H5 ⟨v6, v7, rfl, s5, o5⟩
        rw [List.take_length] at o5
        exact ⟨_, rfl, k H5 od ((s1.trans s2).trans s5) odH o5⟩
/-! ### _law_ready -/
def sp__law_ready (K : PySem.W.Frag) : Sp := fun vs H Q _ => ∃ a l B S, vs = [.ref a, .ref l] ∧ BoardAt H B a ∧ BoardOk B ∧ H l = some (.tup (S.map nV)) ∧ Lft B S ∧
  ∀ H' p, Same H H' → H p = none → H' p = some (.lst ((readyL B S).map nV)) → Q (.ref p) H'
theorem ok__law_ready {f : Addr} {fd : FuncData} (T : Txt K mg) (d : Dn K mg "_law_ready" s__law_ready ["_law_board_here", "_law_lot_here"] f fd) : FnOk P w K mg base CX0 4 f fd ["_law_board_here", "_law_lot_here"] (sp__law_ready K) := by
  obtain ⟨f__law_over, fd__law_over, d__law_over⟩ := T.h__law_over
  have g__law_over : FnOk P w K mg base CX0 3 f__law_over fd__law_over ["_law_board_here", "_law_lot_here", "_law_line"] (sp__law_over K) := ok__law_over T d__law_over
  obtain ⟨f__law_rows, fd__law_rows, d__law_rows⟩ := T.h__law_rows
  have g__law_rows : FnOk P w K mg base CX0 1 f__law_rows fd__law_rows ["_law_board_here", "_law_lot_here"] (sp__law_rows K) := ok__law_rows T d__law_rows
  obtain ⟨f__law_columns, fd__law_columns, d__law_columns⟩ := T.h__law_columns
  have g__law_columns : FnOk P w K mg base CX0 1 f__law_columns fd__law_columns ["_law_board_here", "_law_lot_here"] (sp__law_columns K) := ok__law_columns T d__law_columns
  refine d.F.ok sc__law_ready (fun vs H Q E h => ?_) (fun cdv A outer s H vs Q E hr h => ?_)
  · obtain ⟨a, l, B, S, rfl, hb, bo, hl, lft, k⟩ := h
    rfl
  · obtain ⟨a, l, B, S, rfl, hb, bo, hl, lft, k⟩ := h
    have nd := sc__law_ready.nd
    have hu := hu_of hr
    refine ⟨_, (pss_one (ps_ret (pe_lc (own := [("_law_line", 2)]) rfl nd (k_piL (K := K) (pe_op op_cat (pe_call g__law_rows (hr.mono (by decide)) (by rfl) d__law_rows.g d__law_rows.F.kp d__law_rows.b .nil pass0 (pa_cons (pv 0) (pa_cons (pv 1) pa_nil))) (pe_call g__law_columns (hr.mono (by decide)) (by rfl) d__law_columns.g d__law_columns.F.kp d__law_columns.b .nil pass0 (pa_cons (pv 0) (pa_cons (pv 1) pa_nil))))) (blkOk_by (N := ["_law_board_here", "_law_lot_here", "_law_line"]) (sc := defScope s__law_ready) (by decide +kernel)) (fun _ _ _ _ _ => pg_name (i := 2) nd rfl (Or.inl rfl)) (fun _ _ _ _ _ => pts_one (pt_cmpR (k_neD (K := K) hr.units) (pe_call g__law_over (hr.mono (by decide)) (by rfl) d__law_over.g d__law_over.F.kp d__law_over.b .nil pass0 (pa_cons (pv 0) (pa_cons (pv 1) (pa_cons (pv 2) pa_nil)))) (pe_lst pa_nil) (by rfl))) (fun _ _ _ _ _ => (pv 2))))), ?_⟩
    have m1 := rows_len B bo S
    have m2 := cols_len B bo S
    refine ⟨_, rfl, _, rfl, a, l, B, S, rfl, hb, bo, hl, fun H1 p1 s1 n1 e1 => ?_⟩
    refine ⟨_, rfl, _, rfl, a, l, B, S, rfl, hb.same s1, bo, s1 _ _ hl, fun H2 p2 s2 n2 e2 => ?_⟩
    refine ⟨p1, p2, _, _, rfl, rfl, s2 _ _ e1, e2, ?_, fun p3 n3 => ?_⟩
    · rw [List.length_map, List.length_map]
      exact len_small (by omega)
    have s3 : Same H2 (upd H2 p3 (.lst ((rowsL B S).map nV ++ (colsL B S).map nV))) := same_new n3
    have e3 : upd H2 p3 (.lst ((rowsL B S).map nV ++ (colsL B S).map nV)) p3 = some (.lst ((rowsL B S ++ colsL B S).map nV)) := by rw [upd_same, List.map_append]
    generalize upd H2 p3 (.lst ((rowsL B S).map nV ++ (colsL B S).map nV)) = H3 at s3 e3
    have t3 : Same H H3 := (s1.trans s2).trans s3
    refine ⟨p3, rfl, ⟨_, SqL.of e3⟩, fun D nD => ?_⟩
    refine lcF (L := rowsL B S ++ colsL B S) (F := nV) walk_listM nD (by rw [List.length_append]; omega) (fun x => cfB B S x) nV (fun H4 t => SqL.of (t _ _ e3)) (fun _ => rfl) ?_ ?_ ?_
    · intro x hx H4 R t kk
      have hx2 := (left_all.mp hx).1
      have t4 := t3.trans t
      refine ⟨_, rfl, _, rfl, _, rfl, a, l, B, S, x, rfl, hb.same t4, bo, t4 _ _ hl, hx2, fun H5 p5 s5 n5 e5 => ?_⟩
      refine ⟨Nat.zero_le _, fun e6 he6 => ?_⟩
      have u6 : Same H5 (upd H5 e6 (.lst [])) := same_new he6
      refine ⟨_, _, .lst (SqL.of (u6 _ _ e5)) (dpAll_nV _), .lst (SqL.of upd_same) (dpAll_nV []), shaped_lst _, shaped_lst [], _, rfl, ?_⟩
      rw [eqv_lst]
      have e : (!decide (overL B S x = [])) = cfB B S x := by
        rw [Bool.eq_iff_iff, cfB_iff, ← over_iff lft hx2, Bool.not_eq_true', decide_eq_false_iff_not]
      rw [e]
      exact kk _ (s5.trans u6)
    · intro x hx _ H4 R t kk
      exact ⟨_, rfl, kk H4 (Same.refl _)⟩
    · intro H4 s4 hD
      exact k H4 D (t3.trans s4) (t3.free nD) hD
end
end K1
namespace K1
open PySem PySem.Spec PyProof.Rows L2
section
variable {P : Program} {w : World} {K : PySem.W.Frag} {mg : Str → Option Value} {base : Heap}
theorem BoardAt.sb {K : PySem.W.Frag} {H H' : Hp} {r : Addr} {B : Board} {a : Addr} (h : BoardAt H B a) (ro : RowOk K H r) (s : SB r H H') : BoardAt H' B a := h.tups (s.tups ro)
theorem RowOk.ne {K : PySem.W.Frag} {H : Hp} {r p : Addr} (ro : RowOk K H r) (n : H p = none) : r ≠ p := by
  obtain ⟨xs, e⟩ := ro.lst
  exact ne_of_none e n
/-! ### _law_drawn -/
def sp__law_drawn (K : PySem.W.Frag) : Sp := fun vs H Q _ => ∃ r a many B, vs = [.ref r, .ref a, .int many] ∧ RowOk K H r ∧ BoardAt H B a ∧ BoardOk B ∧ 0 ≤ many ∧ many ≤ 1000 ∧
  ∀ H' p ts tl s S, SB r H H' → RowOk K H' r → H' p = some (.tup [.ref ts, .ref tl]) → H' ts = some (.tup (s.map nV)) → H' tl = some (.tup (S.map nV)) → Strk B s S → Q (.ref p) H'
theorem ok__law_drawn {f : Addr} {fd : FuncData} (T : Txt K mg) (d : Dn K mg "_law_drawn" s__law_drawn ["_law_row", "_law_board_here", "_law_many"] f fd) : FnOk P w K mg base CX0 5 f fd ["_law_row", "_law_board_here", "_law_many"] (sp__law_drawn K) := by
  obtain ⟨f__law_ready, fd__law_ready, d__law_ready⟩ := T.h__law_ready
  have g__law_ready : FnOk P w K mg base CX0 4 f__law_ready fd__law_ready ["_law_board_here", "_law_lot_here"] (sp__law_ready K) := ok__law_ready T d__law_ready
  obtain ⟨f__law_pick, fd__law_pick, d__law_pick⟩ := T.h__law_pick
  have g__law_pick : FnOk P w K mg base CX0 2 f__law_pick fd__law_pick ["_law_row", "_law_things"] (sp__law_pick K) := ok__law_pick T d__law_pick
  obtain ⟨f__law_with, fd__law_with, d__law_with⟩ := T.h__law_with
  have g__law_with : FnOk P w K mg base CX0 1 f__law_with fd__law_with ["_law_lot_here", "_law_line"] (sp__law_with K) := ok__law_with T d__law_with
  refine d.F.ok sc__law_drawn (fun vs H Q E h => ?_) (fun cdv A outer s H vs Q E hr h => ?_)
  · obtain ⟨r, a, many, B, rfl, ro, hb, bo, h0, h9, k⟩ := h
    rfl
  · obtain ⟨r, a, many, B, rfl, ro, hb, bo, h0, h9, k⟩ := h
    have nd := sc__law_drawn.nd
    have hu := hu_of hr
    refine ⟨_, (pss_cons (ps_asg (pe_tup (pa_cons (pe_tup pa_nil) (pa_cons (pe_tup pa_nil) pa_nil))) (k_tup (K := K) (n := 2) rfl (pgs_cons (pg_name (i := 3) nd rfl (Or.inl rfl)) (pgs_cons (pg_name (i := 4) nd rfl (Or.inl rfl)) pgs_nil))))
      (pss_cons (ps_for PassesOwn.never rfl (pi_range1 (by rfl) T.brange (pa_cons (pv 2) pa_nil)) (pg_name (i := 5) nd rfl (Or.inl rfl))
        (pss_cons (ps_set (i := 6) nd rfl (Or.inl rfl) (pe_call g__law_ready (hr.mono (by decide)) (by rfl) d__law_ready.g d__law_ready.F.kp d__law_ready.b .nil pass0 (pa_cons (pv 1) (pa_cons (pv 3) pa_nil))))
        (pss_one (ps_if (pt_cmpR (k_neD (K := K) hr.units) (pv 6) (pe_lst pa_nil) (by rfl))
          (pss_cons (ps_set (i := 7) nd rfl (Or.inl rfl) (pe_call g__law_pick (hr.mono (by decide)) (by rfl) d__law_pick.g d__law_pick.F.kp d__law_pick.b .nil pass0 (pa_cons (pv 0) (pa_cons (pv 6) pa_nil))))
          (pss_one (ps_par (i := 3) (j := 4) rfl nd rfl rfl (by decide) rfl rfl (pa_cons (pe_call g__law_with (hr.mono (by decide)) (by rfl) d__law_with.g d__law_with.F.kp d__law_with.b .nil pass0 (pa_cons (pv 3) (pa_cons (pv 7) pa_nil))) (pa_cons (pe_op (k_catA (K := K)) (pv 4) (pe_tup (pa_cons (pv 7) pa_nil))) pa_nil)) (by rfl))))
          pss_nil))))
      (pss_one (ps_ret (pe_tup (pa_cons (pv 4) (pa_cons (pv 3) pa_nil))))))), ?_⟩
    have n12 := nB_le bo
    refine ⟨Nat.zero_le _, fun p0 hp0 => ⟨Nat.zero_le _, fun q0 hq0 => ⟨by show 2 ≤ sizeLine; decide, fun t0 ht0 => ⟨t0, _, rfl, SqT.of upd_same, rfl, _, _, rfl, _, _, rfl, rfl, ?_⟩⟩⟩⟩
    have s1 : Same H (upd H p0 (.tup [])) := same_new hp0
    have s2 : Same (upd H p0 (.tup [])) (upd (upd H p0 (.tup [])) q0 (.tup [])) := same_new hq0
    have s3 : Same (upd (upd H p0 (.tup [])) q0 (.tup [])) (upd (upd (upd H p0 (.tup [])) q0 (.tup [])) t0 (.tup [.ref p0, .ref q0])) := same_new ht0
    refine ⟨_, rfl, many, rfl, by omega, by omega, ?_⟩
    refine for_it (walk_range (lo := 0) (n := many.toNat)) (fun i σ H' => ∃ tl ts v5 v6 v7 s S, σ = [some (.ref r), some (.ref a), some (.int many), some (.ref tl), some (.ref ts), v5, v6, v7] ∧ SB r H H' ∧ RowOk K H' r ∧ H' ts = some (.tup (s.map nV)) ∧ H' tl = some (.tup (S.map nV)) ∧ Strk B s S)
      ⟨p0, q0, none, none, none, [], [], rfl, SB.of ((s1.trans s2).trans s3), ro.same ((s1.trans s2).trans s3), s3 _ _ upd_same, s3 _ _ (s2 _ _ upd_same), .nil⟩ (fun _ _ _ _ _ => trivial) ?_ ?_
    · rintro i v σ H1 H1' hi ⟨tl, ts, v5, v6, v7, s, S, rfl, t1, ro1, hts, htl, hs⟩ ⟨rfl, rfl⟩
      have hb1 := hb.sb ro t1
      have hlen := lotLen bo hs.rising hs.lt
      have hsl := hs.len
      refine ⟨_, rfl, _, rfl, a, tl, B, S, rfl, hb1, bo, htl, hs.lft bo, fun H2 p2 s2 n2 e2 => ?_⟩
      refine ⟨_, rfl, Nat.zero_le _, fun e5 he5 => ?_⟩
      have u5 : Same H2 (upd H2 e5 (.lst [])) := same_new he5
      refine ⟨_, _, .lst (SqL.of (u5 _ _ e2)) (dpAll_nV _), .lst (SqL.of upd_same) (dpAll_nV []), shaped_lst _, shaped_lst [], _, rfl, ?_⟩
      rw [eqv_lst]
      have s5 := s2.trans u5
      have ro5 := ro1.same s5
      have t5 := t1.trans (SB.of s5)
      refine ite2 (fun z => ?_) (fun z => ?_)
      · have hne : readyL B S ≠ [] := fun y => by rw [decide_eq_true y] at z; exact Bool.noConfusion z
        have len : (readyL B S).length ≤ 1000 := by
          have m1 := rows_len B bo S
          have m2 := cols_len B bo S
          have : (readyL B S).length ≤ (rowsL B S ++ colsL B S).length := List.length_filter_le _ _
          rw [List.length_append] at this
          omega
        refine ⟨_, rfl, _, rfl, r, p2, _, rfl, ro5, (ro1.ne n2).symm, u5 _ _ e2, fun y => hne (List.map_eq_nil_iff.mp y), by rw [List.length_map]; exact len, fun H6 x hx t6 ro6 => ?_⟩
        obtain ⟨l, hl, rfl⟩ := List.mem_map.mp hx
        obtain ⟨⟨l1, l2⟩, l3⟩ := mem_readyL.mp hl
        have tp6 := SB.tups ro5 t6
        refine ⟨_, rfl, _, rfl, tl, S, l, rfl, tp6 _ _ (s5 _ _ htl), hs.rising, l2, by omega, fun H7 p7 s7 n7 e7 => ?_⟩
        refine ⟨_, rfl, _, rfl, by show 1 ≤ sizeLine; decide, ?_⟩
        refine cat_one (s7 _ _ (tp6 _ _ (s5 _ _ hts))) (by omega) fun H8 p8 s8 n8 e8 => ?_
        refine ⟨_, _, rfl, p7, p8, _, _, _, s ++ [l], insL l S, rfl, (t5.trans t6).trans (SB.of (s7.trans s8)), (ro6.same s7).same s8, ?_, s8 _ _ e7, .snoc hs l1 l2 l3⟩
        rw [e8, List.map_append]
        rfl
      · exact ⟨tl, ts, _, _, _, s, S, rfl, t5, ro5, s5 _ _ hts, s5 _ _ htl, hs⟩
    · rintro σ H1 ⟨tl, ts, v5, v6, v7, s, S, rfl, t1, ro1, hts, htl, hs⟩
      refine ⟨_, rfl, _, rfl, by show 2 ≤ sizeLine; decide, fun p hp => ?_⟩
      have u : Same H1 (upd H1 p (.tup [.ref ts, .ref tl])) := same_new hp
      exact k _ p ts tl s S (t1.trans (SB.of u)) (ro1.same u) upd_same (u _ _ hts) (u _ _ htl) hs
/-! ### _law_lot -/
theorem nR_le {B : Board} {S : List Nat} (up : S.Pairwise (· < ·)) (lt : ∀ x ∈ S, x < nB B) : nR B S ≤ hB B ∧ S.length - nR B S ≤ wB B := by
  have nd : S.Nodup := up.imp fun z => Nat.ne_of_lt z
  have n1 : nB B = hB B + wB B := rfl
  have e : S.length = (S.filter fun x => decide (x < hB B)).length + (S.filter fun x => !decide (x < hB B)).length := len_split (fun x => decide (x < hB B)) S
  constructor
  · have := List.Nodup.length_le_of_subset (l₂ := List.range (hB B)) (nd.sublist (List.filter_sublist (p := fun x => decide (x < hB B)))) fun x hx => by
      have := (List.mem_filter.mp hx).2
      exact List.mem_range.mpr (by simpa using this)
    rw [List.length_range] at this
    exact this
  · have := List.Nodup.length_le_of_subset (l₂ := List.range' (hB B) (wB B)) (nd.sublist (List.filter_sublist (p := fun x => !decide (x < hB B)))) fun x hx => by
      obtain ⟨h1, h2⟩ := List.mem_filter.mp hx
      have h3 := lt x h1
      exact List.mem_range'_1.mpr ⟨by simpa using h2, h3⟩
    rw [List.length_range'] at this
    unfold nR
    omega
theorem lotOk_nil {B : Board} (bo : BoardOk B) : LotOk B [] := ⟨.nil, fun x hx => by simp at hx, by have := bo.h1; show 0 < hB B; omega, by have := bo.w1; show 0 < wB B; omega⟩
def sp__law_lot (K : PySem.W.Frag) : Sp := fun vs H Q _ => ∃ r a B, vs = [.ref r, .ref a] ∧ RowOk K H r ∧ BoardAt H B a ∧ BoardOk B ∧
  ∀ H' l S, SB r H H' → RowOk K H' r → H' l = some (.tup (S.map nV)) → LotOk B S → Q (.ref l) H'
theorem ok__law_lot {f : Addr} {fd : FuncData} (T : Txt K mg) (d : Dn K mg "_law_lot" s__law_lot ["_law_row", "_law_board_here"] f fd) : FnOk P w K mg base CX0 6 f fd ["_law_row", "_law_board_here"] (sp__law_lot K) := by
  obtain ⟨f__law_taken, fd__law_taken, d__law_taken⟩ := T.h__law_taken
  have g__law_taken : FnOk P w K mg base CX0 1 f__law_taken fd__law_taken ["_law_row", "_law_many"] (sp__law_taken K) := ok__law_taken T d__law_taken
  obtain ⟨f__law_drawn, fd__law_drawn, d__law_drawn⟩ := T.h__law_drawn
  have g__law_drawn : FnOk P w K mg base CX0 5 f__law_drawn fd__law_drawn ["_law_row", "_law_board_here", "_law_many"] (sp__law_drawn K) := ok__law_drawn T d__law_drawn
  refine d.F.ok sc__law_lot (fun vs H Q E h => ?_) (fun cdv A outer s H vs Q E hr h => ?_)
  · obtain ⟨r, a, B, rfl, ro, hb, bo, k⟩ := h
    rfl
  · obtain ⟨r, a, B, rfl, ro, hb, bo, k⟩ := h
    have nd := sc__law_lot.nd
    have hu := hu_of hr
    refine ⟨_, (pss_cons (ps_if (pt_cmpR op_eq (pe_call g__law_taken (hr.mono (by decide)) (by rfl) d__law_taken.g d__law_taken.F.kp d__law_taken.b .nil pass0 (pa_cons (pv 0) (pa_cons pe_int pa_nil))) pe_int (by rfl))
        (pss_one (ps_ret (pe_ix (k_ixT (K := K)) (pe_call g__law_drawn (hr.mono (by decide)) (by rfl) d__law_drawn.g d__law_drawn.F.kp d__law_drawn.b .nil pass0 (pa_cons (pv 0) (pa_cons (pv 1) (pa_cons (pe_call g__law_taken (hr.mono (by decide)) (by rfl) d__law_taken.g d__law_taken.F.kp d__law_taken.b .nil pass0 (pa_cons (pv 0) (pa_cons pe_int pa_nil))) pa_nil)))) pe_int (fun _ _ => rfl))))
        pss_nil)
      (pss_cons (ps_asg (pe_tup (pa_cons (pe_callB (id := "len") (kc_len (K := K)) (by rfl) T.blen (by decide +kernel) (pa_cons (pv 1) pa_nil)) (pa_cons (pe_callB (id := "len") (kc_len (K := K)) (by rfl) T.blen (by decide +kernel) (pa_cons (pe_ix (k_ixT (K := K)) (pv 1) pe_int (fun _ _ => rfl)) pa_nil)) (pa_cons (pe_tup pa_nil) pa_nil)))) (k_tup (K := K) (n := 3) rfl (pgs_cons (pg_name (i := 2) nd rfl (Or.inr rfl)) (pgs_cons (pg_name (i := 3) nd rfl (Or.inl rfl)) (pgs_cons (pg_name (i := 4) nd rfl (Or.inl rfl)) pgs_nil)))))
      (pss_cons (ps_for PassesOwn.never rfl (pi_range1 (by rfl) T.brange (pa_cons (pe_op op_add (pv 2) (pv 3)) pa_nil)) (pg_name (i := 5) nd rfl (Or.inl rfl))
        (pss_one (ps_if (pt_cmpR op_eq (pe_call g__law_taken (hr.mono (by decide)) (by rfl) d__law_taken.g d__law_taken.F.kp d__law_taken.b .nil pass0 (pa_cons (pv 0) (pa_cons pe_int pa_nil))) pe_int (by rfl))
          (pss_one (ps_set (i := 4) nd rfl (Or.inl rfl) (pe_op (k_catA (K := K)) (pv 4) (pe_tup (pa_cons (pv 5) pa_nil)))))
          pss_nil)))
      (pss_cons (ps_setLc (i := 6) (own := [("_law_line", 5)]) rfl nd rfl rfl (sw_true rfl rfl rfl (by decide +kernel)) (k_piT (K := K) (pv 4)) (blkOk_by (N := ["_law_row", "_law_board_here", "_law_high", "_law_wide", "_law_found", "_law_line", "_law_rows_here"]) (sc := defScope s__law_lot) (by decide +kernel)) (fun _ _ _ _ _ => pg_name (i := 5) nd rfl (Or.inl rfl)) (fun _ _ _ _ _ => pts_one (pt_cmpR op_lt (pv 5) (pv 2) (by rfl))) (fun _ _ _ _ _ => (pv 5)))
      (pss_cons (ps_if (PW.pt (pw_or (pt_cmpR op_eq (pe_callB (id := "len") (kc_len (K := K)) (by rfl) T.blen (by decide +kernel) (pa_cons (pv 6) pa_nil)) (pv 2) (by rfl)) (pw_or1 (pt_cmpR op_eq (pe_op op_sub (pe_callB (id := "len") (kc_len (K := K)) (by rfl) T.blen (by decide +kernel) (pa_cons (pv 4) pa_nil)) (pe_callB (id := "len") (kc_len (K := K)) (by rfl) T.blen (by decide +kernel) (pa_cons (pv 6) pa_nil))) (pv 3) (by rfl)))))
        (pss_one (ps_ret (pe_tup pa_nil)))
        pss_nil)
      (pss_one (ps_ret (pv 4)))))))), ?_⟩
    have n12 := nB_le bo
    have n1 : nB B = hB B + wB B := rfl
    refine ⟨_, rfl, r, _, rfl, ro, by decide, by decide, fun H1 v hv0 hv1 t1 ro1 => ?_⟩
    have hb1 := hb.sb ro t1
    refine ⟨rfl, _, rfl, ?_⟩
    refine ite2 (fun _ => ?_) (fun _ => ?_)
    · refine ⟨_, rfl, _, rfl, _, rfl, r, _, rfl, ro1, by decide, by decide, fun H2 v2 h0 h1 t2 ro2 => ?_⟩
      refine ⟨r, a, v2, B, rfl, ro2, hb1.sb ro1 t2, bo, h0, by omega, fun H3 p ts tl s S t3 ro3 hp hts htl hs => ?_⟩
      exact ⟨p, _, (1 : Nat), .ref tl, rfl, rfl, SqT.of hp, atI_nat rfl, k H3 tl S ((t1.trans t2).trans t3) ro3 htl (hs.lotOk bo)⟩
    · obtain ⟨rs, qs, rr, g1, g2, g3, g4, g5⟩ := hb1.row0 bo
      have g2' : (rs.map V.ref).length = hB B := by rw [List.length_map]; exact g2
      have g5' : (qs.map V.ref).length = wB B := by rw [List.length_map]; exact g5
      refine ⟨_, rfl, a, _, rfl, .inr (SqT.of g1), _, rfl, a, _, (0 : Nat), .ref rr, rfl, rfl, SqT.of g1, atI_nat g3, rr, _, rfl, .inr (SqT.of g4), ?_⟩
      rw [g2', g5']
      refine ⟨Nat.zero_le _, fun q0 hq0 => ⟨by show 3 ≤ sizeLine; decide, fun t0 ht0 => ?_⟩⟩
      refine ⟨t0, _, rfl, SqT.of upd_same, rfl, _, _, rfl, _, _, rfl, _, _, rfl, rfl, ?_⟩
      have s2 : Same H1 (upd H1 q0 (.tup [])) := same_new hq0
      have s3 : Same (upd H1 q0 (.tup [])) (upd (upd H1 q0 (.tup [])) t0 (.tup [.int (hB B : Int), .int (wB B : Int), .ref q0])) := same_new ht0
      have e3 : upd (upd H1 q0 (.tup [])) t0 (.tup [.int (hB B : Int), .int (wB B : Int), .ref q0]) q0 = some (.tup []) := s3 _ _ upd_same
      have s4 := s2.trans s3
      generalize upd (upd H1 q0 (.tup [])) t0 (.tup [.int (hB B : Int), .int (wB B : Int), .ref q0]) = H3 at s4 e3
      refine ⟨_, rfl, _, rfl, _, _, rfl, rfl, (hB B : Int) + (wB B : Int), rfl, by omega, by omega, ?_⟩
      have en : ((hB B : Int) + (wB B : Int)).toNat = nB B := by omega
      rw [en]
      refine for_it (walk_range (lo := 0) (n := nB B)) (fun i σ H' => ∃ ft v5 S, σ = [some (.ref r), some (.ref a), some (nV (hB B)), some (nV (wB B)), some (.ref ft), v5, none] ∧ SB r H1 H' ∧ RowOk K H' r ∧ H' ft = some (.tup (S.map nV)) ∧ S.Pairwise (· < ·) ∧ ∀ x ∈ S, x < i)
        ⟨q0, none, [], rfl, SB.of s4, ro1.same s4, e3, .nil, fun x hx => by simp at hx⟩ (fun _ _ _ _ _ => trivial) ?_ ?_
      · rintro i v σ H4 H4' hi ⟨ft, v5, S, rfl, t4, ro4, hft, up, lt⟩ ⟨rfl, rfl⟩
        refine ⟨_, rfl, r, _, rfl, ro4, by decide, by decide, fun H5 v5 _ _ t5 ro5 => ?_⟩
        have tp5 := SB.tups ro4 t5
        have hlen := lotLen bo up (fun x hx => by have := lt x hx; omega)
        refine ⟨rfl, _, rfl, ?_⟩
        refine ite2 (fun _ => ?_) (fun _ => ?_)
        · refine ⟨_, rfl, _, rfl, by show 1 ≤ sizeLine; decide, ?_⟩
          refine cat_one (tp5 _ _ hft) (by omega) fun H6 p6 s6 n6 e6 => ?_
          refine ⟨p6, _, S ++ [i], rfl, (t4.trans t5).trans (SB.of s6), ro5.same s6, ?_, ?_, fun x hx => ?_⟩
          · rw [e6, List.map_append]
            show some (HO.tup (S.map nV ++ [V.int (0 + (i : Int))])) = some (HO.tup (S.map nV ++ [V.int (i : Int)]))
            rw [Int.zero_add]
          · rw [List.pairwise_append]
            exact ⟨up, by simp, fun x hx y hy => by rw [List.mem_singleton.mp hy]; exact lt x hx⟩
          · rcases List.mem_append.mp hx with hx | hx
            · have := lt x hx; omega
            · rw [List.mem_singleton.mp hx]; omega
        · exact ⟨ft, _, S, rfl, t4.trans t5, ro5, tp5 _ _ hft, up, fun x hx => by have := lt x hx; omega⟩
      · rintro σ H4 ⟨ft, v5, S, rfl, t4, ro4, hft, up, lt⟩
        have hlen := lotLen bo up lt
        obtain ⟨m1, m2⟩ := nR_le up lt
        refine ⟨_, rfl, ft, rfl, ⟨_, SqT.of hft⟩, fun D nD => ?_⟩
        refine lcF (L := S) (F := nV) walk_tupM nD (by omega) (fun x => decide (x < hB B)) nV (fun H5 s5 => SqT.of (s5 _ _ hft)) (fun _ => rfl) ?_ ?_ ?_
        · intro x hx H5 R s5 kk
          refine ⟨_, rfl, _, rfl, _, _, rfl, rfl, _, rfl, ?_⟩
          have e : decide ((x : Int) < (hB B : Int)) = decide (x < hB B) := decide_eq_decide.mpr (by omega)
          rw [e]
          exact kk H5 (Same.refl _)
        · intro x hx _ H5 R s5 kk
          exact ⟨_, rfl, kk H5 (Same.refl _)⟩
        intro H5 s5 hD
        have hft5 := s5 _ _ hft
        have t5 := (t1.trans t4).trans (SB.of s5)
        have ro5 := ro4.same s5
        have eR : ((S.filter fun x => decide (x < hB B)).map nV).length = nR B S := by rw [List.length_map]; rfl
        have ret : ∀ (Z : List Nat) p, LotOk B Z → H5 p = some (.tup (Z.map nV)) → Q (.ref p) H5 := fun Z p lo hp => k H5 p Z t5 ro5 hp lo
        refine ⟨_, rfl, D, _, rfl, .inl (SqL.of hD), _, rfl, rfl, _, rfl, ?_⟩
        rw [eR]
        have nilret : ∀ p, H5 p = none → Q (.ref p) (upd H5 p (.tup [])) := fun p hp => k _ p [] (t5.trans (SB.of (same_new hp))) (ro5.same (same_new hp)) upd_same (lotOk_nil bo)
        refine ite2 (fun _ => ⟨Nat.zero_le _, nilret⟩) (fun z => ?_)
        refine ⟨_, rfl, ft, _, rfl, .inr (SqT.of hft5), _, rfl, D, _, rfl, .inl (SqL.of hD), _, _, rfl, rfl, _, rfl, rfl, _, rfl, ?_⟩
        rw [eR, List.length_map]
        refine ite2 (fun _ => ⟨Nat.zero_le _, nilret⟩) (fun z2 => ⟨_, rfl, ret S ft ⟨up, lt, ?_, ?_⟩ hft5⟩)
        · have z1 : ¬ ((nR B S : Int) = (hB B : Int)) := fun y => z (decide_eq_true (congrArg V.int y))
          omega
        · have z1 : ¬ ((S.length : Int) - (nR B S : Int) = (wB B : Int)) := fun y => z2 (decide_eq_true (congrArg V.int y))
          have : nR B S ≤ S.length := List.length_filter_le _ _
          omega
end
end K1
namespace K1
open PySem PySem.Spec PyProof.Rows L2
section
variable {P : Program} {w : World} {K : PySem.W.Frag} {mg : Str → Option Value} {base : Heap}
/-! ### _law_alike -/
theorem tl_int : PySem.W.kitAny K (.type "int") [.type "tuple", .type "list"] = some false :=
  kitAny_cons (b := false) (kit_ty (by decide +kernel)) (fun _ => kitAny_cons (b := false) (kit_ty (by decide +kernel)) (fun _ => rfl) (fun h => Bool.noConfusion h)) (fun h => Bool.noConfusion h)
theorem tl_tup : PySem.W.kitAny K (.type "tuple") [.type "tuple", .type "list"] = some true :=
  kitAny_cons (b := true) (kit_ty (by decide +kernel)) (fun h => Bool.noConfusion h) (fun _ => rfl)
theorem tl_lst : PySem.W.kitAny K (.type "list") [.type "tuple", .type "list"] = some true :=
  kitAny_cons (b := false) (kit_ty (by decide +kernel)) (fun _ => kitAny_cons (b := true) (kit_ty (by decide +kernel)) (fun h => Bool.noConfusion h) (fun _ => rfl)) (fun h => Bool.noConfusion h)
def sp__law_alike1 (K : PySem.W.Frag) : Sp := fun vs H Q _ => ∃ i : Int, vs = [.int i, .int i] ∧ ∀ H', Same H H' → Q (.bl true) H'
theorem ok__law_alike1 {f : Addr} {fd : FuncData} (T : Txt K mg) (d : Dn K mg "_law_alike" s__law_alike ["_law_found", "_law_due"] f fd) : FnOk P w K mg base CX0 1 f fd ["_law_found", "_law_due"] (sp__law_alike1 K) := by
  refine d.F.ok sc__law_alike (fun vs H Q E h => ?_) (fun cdv A outer s H vs Q E hr h => ?_)
  · obtain ⟨i, rfl, k⟩ := h
    rfl
  · obtain ⟨i, rfl, k⟩ := h
    have nd := sc__law_alike.nd
    have hu := hu_of hr
    refine ⟨_, (pss_cons (ps_if (pt_val (pe_callB (id := "isinstance") (kc_isiT (K := K)) (by rfl) T.bisinstance (by decide +kernel) (pa_cons (pv 1) (pa_cons (pe_tup (pa_cons (pe_bltn (v := .ty "tuple") (by rfl) T.btuple (by decide +kernel) rfl) (pa_cons (pe_bltn (v := .ty "list") (by rfl) T.blist (by decide +kernel) rfl) pa_nil))) pa_nil))))
        pss_never pss_nil)
      (pss_cons (ps_if (PW.pt (pw_or (pt_cmpR op_isN (pv 1) pe_non (by rfl)) (pw_or1 (pt_val (pe_callB (id := "isinstance") (kc_isi (K := K)) (by rfl) T.bisinstance (by decide +kernel) (pa_cons (pv 1) (pa_cons (pe_bltn (v := .ty "str") (by rfl) T.bstr (by decide +kernel) rfl) pa_nil)))))))
        pss_never pss_nil)
      (pss_one (ps_ret (pe_and (pe_callB (id := "isinstance") (kc_isi (K := K)) (by rfl) T.bisinstance (by decide +kernel) (pa_cons (pv 0) (pa_cons (pe_bltn (v := .ty "int") (by rfl) T.bint (by decide +kernel) rfl) pa_nil))) (pe_and (pe_cmpR op_eq (pe_callB (id := "isinstance") (kc_isi (K := K)) (by rfl) T.bisinstance (by decide +kernel) (pa_cons (pv 0) (pa_cons (pe_bltn (v := .ty "bool") (by rfl) T.bbool (by decide +kernel) rfl) pa_nil))) (pe_callB (id := "isinstance") (kc_isi (K := K)) (by rfl) T.bisinstance (by decide +kernel) (pa_cons (pv 1) (pa_cons (pe_bltn (v := .ty "bool") (by rfl) T.bbool (by decide +kernel) rfl) pa_nil))) (by rfl)) (pe_one (pe_cmpR (k_eqD (K := K) hr.units) (pv 0) (pv 1) (by rfl))))))))), ?_⟩
    refine ⟨_, rfl, by show 2 ≤ sizeLine; decide, fun t1 h1 => ?_⟩
    have s1 : Same H (upd H t1 (.tup [.ty "tuple", .ty "list"])) := same_new h1
    refine ⟨_, t1, _, _, _, false, rfl, upd_same, .cons (.ty _) (.cons (.ty _) .nil), .base (.int i), tl_int, false, rfl, iteF ?_⟩
    refine ⟨_, rfl, rfl, _, rfl, iteF ?_⟩
    refine ⟨_, rfl, _, _, _, _, false, rfl, .ty _, .base (.int i), kit_ty (by decide +kernel), false, rfl, iteF ?_⟩
    refine ⟨_, rfl, _, _, _, _, true, rfl, .ty _, .base (.int i), kit_ty (by decide +kernel), true, rfl, iteT ?_⟩
    refine ⟨_, rfl, _, _, _, _, false, rfl, .ty _, .base (.int i), kit_ty (by decide +kernel), _, rfl, _, _, _, _, false, rfl, .ty _, .base (.int i), kit_ty (by decide +kernel), rfl, true, rfl, iteT ?_⟩
    refine ⟨_, rfl, _, rfl, .int i, .int i, .int i, .int i, shaped_int i, shaped_int i, q_bl ?_ (k _ s1)⟩
    rw [PyData.eqv]
    simp
def sp__law_alike2 (K : PySem.W.Frag) : Sp := fun vs H Q _ => ∃ (p q : Addr) (S : List Nat), vs = [.ref p, .ref q] ∧ H p = some (.tup (S.map nV)) ∧ H q = some (.tup (S.map nV)) ∧ S.length ≤ 1000 ∧ ∀ H', Same H H' → Q (.bl true) H'
theorem ok__law_alike2 {f : Addr} {fd : FuncData} (T : Txt K mg) (d : Dn K mg "_law_alike" s__law_alike ["_law_found", "_law_due"] f fd) : FnOk P w K mg base CX0 2 f fd ["_law_found", "_law_due"] (sp__law_alike2 K) := by
  have g__law_alike : FnOk P w K mg base CX0 1 f fd ["_law_found", "_law_due"] (sp__law_alike1 K) := ok__law_alike1 T d
  have d__law_alike := d
  refine d.F.ok sc__law_alike (fun vs H Q E h => ?_) (fun cdv A outer s H vs Q E hr h => ?_)
  · obtain ⟨p, q, S, rfl, hp, hq, hlen, k⟩ := h
    rfl
  · obtain ⟨p, q, S, rfl, hp, hq, hlen, k⟩ := h
    have nd := sc__law_alike.nd
    have hu := hu_of hr
    refine ⟨_, (pss_cons (ps_if (pt_val (pe_callB (id := "isinstance") (kc_isiT (K := K)) (by rfl) T.bisinstance (by decide +kernel) (pa_cons (pv 1) (pa_cons (pe_tup (pa_cons (pe_bltn (v := .ty "tuple") (by rfl) T.btuple (by decide +kernel) rfl) (pa_cons (pe_bltn (v := .ty "list") (by rfl) T.blist (by decide +kernel) rfl) pa_nil))) pa_nil))))
        (pss_cons (ps_if (PW.pt (pw_or (pt_not (pt_val (pe_callB (id := "isinstance") (kc_isiT (K := K)) (by rfl) T.bisinstance (by decide +kernel) (pa_cons (pv 0) (pa_cons (pe_tup (pa_cons (pe_bltn (v := .ty "tuple") (by rfl) T.btuple (by decide +kernel) rfl) (pa_cons (pe_bltn (v := .ty "list") (by rfl) T.blist (by decide +kernel) rfl) pa_nil))) pa_nil))))) (pw_or1 (pt_cmpR op_ne (pe_callB (id := "isinstance") (kc_isi (K := K)) (by rfl) T.bisinstance (by decide +kernel) (pa_cons (pv 0) (pa_cons (pe_bltn (v := .ty "list") (by rfl) T.blist (by decide +kernel) rfl) pa_nil))) (pe_callB (id := "isinstance") (kc_isi (K := K)) (by rfl) T.bisinstance (by decide +kernel) (pa_cons (pv 1) (pa_cons (pe_bltn (v := .ty "list") (by rfl) T.blist (by decide +kernel) rfl) pa_nil))) (by rfl)))))
          (pss_one (ps_ret pe_bl))
          pss_nil)
        (pss_cons (ps_if (pt_cmpR op_ne (pe_callB (id := "len") (kc_len (K := K)) (by rfl) T.blen (by decide +kernel) (pa_cons (pv 0) pa_nil)) (pe_callB (id := "len") (kc_len (K := K)) (by rfl) T.blen (by decide +kernel) (pa_cons (pv 1) pa_nil)) (by rfl))
          (pss_one (ps_ret pe_bl))
          pss_nil)
        (pss_one (ps_ret (pe_cmpR (k_eqD (K := K) hr.units) (pe_lc (own := [("_law_k", 2)]) rfl nd (pi_range1 (by rfl) T.brange (pa_cons (pe_callB (id := "len") (kc_len (K := K)) (by rfl) T.blen (by decide +kernel) (pa_cons (pv 1) pa_nil)) pa_nil)) (blkOk_by (N := ["_law_found", "_law_due", "_law_k"]) (sc := defScope s__law_alike) (by decide +kernel)) (fun _ _ _ _ _ => pg_name (i := 2) nd rfl (Or.inl rfl)) (fun _ _ _ _ _ => pts_one (pt_not (pt_val (pe_call g__law_alike (hr.mono (by decide)) (by rfl) d__law_alike.g d__law_alike.F.kp d__law_alike.b .nil pass0 (pa_cons (pe_ix (k_ixT (K := K)) (pv 0) (pv 2) (fun _ _ => rfl)) (pa_cons (pe_ix (k_ixT (K := K)) (pv 1) (pv 2) (fun _ _ => rfl)) pa_nil)))))) (fun _ _ _ _ _ => (pv 2))) (pe_lst pa_nil) (by rfl)))))) pss_nil) pss_never), ?_⟩
    refine ⟨_, rfl, by show 2 ≤ sizeLine; decide, fun t1 h1 => ?_⟩
    have s1 : Same H (upd H t1 (.tup [.ty "tuple", .ty "list"])) := same_new h1
    refine ⟨_, t1, _, _, _, true, rfl, upd_same, .cons (.ty _) (.cons (.ty _) .nil), .base (.tup (s1 _ _ hq)), tl_tup, true, rfl, iteT ?_⟩
    generalize upd H t1 (.tup [.ty "tuple", .ty "list"]) = H1 at s1
    refine ⟨_, rfl, by show 2 ≤ sizeLine; decide, fun t2 h2 => ?_⟩
    have s2 : Same H1 (upd H1 t2 (.tup [.ty "tuple", .ty "list"])) := same_new h2
    refine ⟨_, t2, _, _, _, true, rfl, upd_same, .cons (.ty _) (.cons (.ty _) .nil), .base (.tup (s2 _ _ (s1 _ _ hp))), tl_tup, true, rfl, iteF ?_⟩
    generalize upd H1 t2 (.tup [.ty "tuple", .ty "list"]) = H2 at s2
    have t := s1.trans s2
    have hp2 := t _ _ hp
    have hq2 := t _ _ hq
    refine ⟨_, rfl, _, _, _, _, false, rfl, .ty _, .base (.tup hp2), kit_ty (by decide +kernel), _, rfl, _, _, _, _, false, rfl, .ty _, .base (.tup hq2), kit_ty (by decide +kernel), rfl, false, rfl, iteF ?_⟩
    refine ⟨_, rfl, p, _, rfl, .inr (SqT.of hp2), _, rfl, q, _, rfl, .inr (SqT.of hq2), rfl, _, rfl, iteNS rfl ?_⟩
    refine ⟨_, rfl, q, _, rfl, .inr (SqT.of hq2), (S.length : Int), by rw [List.length_map], by omega, by omega, fun D nD => ?_⟩
    refine lcF (L := List.range S.length) (F := nV) walk_range0 nD (by rw [List.length_range]; omega) (fun _ => false) nV (fun _ _ => trivial) (fun _ => rfl) ?_ (fun _ _ h => Bool.noConfusion h) ?_
    · intro j hj H3 R s3 kk
      have hj := List.mem_range.mp hj
      have g : (S.map nV)[j]? = some (nV S[j]) := by rw [List.getElem?_map, List.getElem?_eq_getElem hj]; rfl
      refine ⟨_, rfl, _, rfl, p, _, _, _, rfl, rfl, SqT.of (s3 _ _ hp2), atI_nat g, ?_⟩
      refine ⟨_, rfl, _, rfl, q, _, _, _, rfl, rfl, SqT.of (s3 _ _ hq2), atI_nat g, ?_⟩
      exact ⟨_, rfl, fun H4 s4 => ⟨true, rfl, kk H4 s4⟩⟩
    intro H3 s3 hD
    have eD : H3 D = some (.lst (([] : List Nat).map nV)) := by
      rw [hD]
      have : ((List.range S.length).filter fun _ => false) = [] := List.filter_eq_nil_iff.mpr fun _ _ h => Bool.noConfusion h
      rw [this]
    refine ⟨Nat.zero_le _, fun e5 he5 => ?_⟩
    have u5 : Same H3 (upd H3 e5 (.lst [])) := same_new he5
    refine ⟨_, _, .lst (SqL.of (u5 _ _ eD)) (dpAll_nV _), .lst (SqL.of upd_same) (dpAll_nV []), shaped_lst _, shaped_lst [], ?_⟩
    rw [eqv_lst]
    exact k _ ((t.trans s3).trans u5)
def sp__law_alike3 (K : PySem.W.Frag) : Sp := fun vs H Q _ => ∃ (p q a b c e : Addr) (S T : List Nat), vs = [.ref p, .ref q] ∧ H p = some (.lst [.ref a, .ref b]) ∧ H q = some (.lst [.ref c, .ref e]) ∧
  H a = some (.tup (S.map nV)) ∧ H c = some (.tup (S.map nV)) ∧ H b = some (.tup (T.map nV)) ∧ H e = some (.tup (T.map nV)) ∧ S.length ≤ 1000 ∧ T.length ≤ 1000 ∧ ∀ H', Same H H' → Q (.bl true) H'
theorem ok__law_alike3 {f : Addr} {fd : FuncData} (T : Txt K mg) (d : Dn K mg "_law_alike" s__law_alike ["_law_found", "_law_due"] f fd) : FnOk P w K mg base CX0 3 f fd ["_law_found", "_law_due"] (sp__law_alike3 K) := by
  have g__law_alike : FnOk P w K mg base CX0 2 f fd ["_law_found", "_law_due"] (sp__law_alike2 K) := ok__law_alike2 T d
  have d__law_alike := d
  refine d.F.ok sc__law_alike (fun vs H Q E h => ?_) (fun cdv A outer s H vs Q E hr h => ?_)
  · obtain ⟨p, q, a, b, c, e, S, U, rfl, hp, hq, ha, hc, hb, he, hS, hU, k⟩ := h
    rfl
  · obtain ⟨p, q, a, b, c, e, S, U, rfl, hp, hq, ha, hc, hb, he, hS, hU, k⟩ := h
    have nd := sc__law_alike.nd
    have hu := hu_of hr
    refine ⟨_, (pss_cons (ps_if (pt_val (pe_callB (id := "isinstance") (kc_isiT (K := K)) (by rfl) T.bisinstance (by decide +kernel) (pa_cons (pv 1) (pa_cons (pe_tup (pa_cons (pe_bltn (v := .ty "tuple") (by rfl) T.btuple (by decide +kernel) rfl) (pa_cons (pe_bltn (v := .ty "list") (by rfl) T.blist (by decide +kernel) rfl) pa_nil))) pa_nil))))
        (pss_cons (ps_if (PW.pt (pw_or (pt_not (pt_val (pe_callB (id := "isinstance") (kc_isiT (K := K)) (by rfl) T.bisinstance (by decide +kernel) (pa_cons (pv 0) (pa_cons (pe_tup (pa_cons (pe_bltn (v := .ty "tuple") (by rfl) T.btuple (by decide +kernel) rfl) (pa_cons (pe_bltn (v := .ty "list") (by rfl) T.blist (by decide +kernel) rfl) pa_nil))) pa_nil))))) (pw_or1 (pt_cmpR op_ne (pe_callB (id := "isinstance") (kc_isi (K := K)) (by rfl) T.bisinstance (by decide +kernel) (pa_cons (pv 0) (pa_cons (pe_bltn (v := .ty "list") (by rfl) T.blist (by decide +kernel) rfl) pa_nil))) (pe_callB (id := "isinstance") (kc_isi (K := K)) (by rfl) T.bisinstance (by decide +kernel) (pa_cons (pv 1) (pa_cons (pe_bltn (v := .ty "list") (by rfl) T.blist (by decide +kernel) rfl) pa_nil))) (by rfl)))))
          (pss_one (ps_ret pe_bl))
          pss_nil)
        (pss_cons (ps_if (pt_cmpR op_ne (pe_callB (id := "len") (kc_len (K := K)) (by rfl) T.blen (by decide +kernel) (pa_cons (pv 0) pa_nil)) (pe_callB (id := "len") (kc_len (K := K)) (by rfl) T.blen (by decide +kernel) (pa_cons (pv 1) pa_nil)) (by rfl))
          (pss_one (ps_ret pe_bl))
          pss_nil)
        (pss_one (ps_ret (pe_cmpR (k_eqD (K := K) hr.units) (pe_lc (own := [("_law_k", 2)]) rfl nd (pi_range1 (by rfl) T.brange (pa_cons (pe_callB (id := "len") (kc_len (K := K)) (by rfl) T.blen (by decide +kernel) (pa_cons (pv 1) pa_nil)) pa_nil)) (blkOk_by (N := ["_law_found", "_law_due", "_law_k"]) (sc := defScope s__law_alike) (by decide +kernel)) (fun _ _ _ _ _ => pg_name (i := 2) nd rfl (Or.inl rfl)) (fun _ _ _ _ _ => pts_one (pt_not (pt_val (pe_call g__law_alike (hr.mono (by decide)) (by rfl) d__law_alike.g d__law_alike.F.kp d__law_alike.b .nil pass0 (pa_cons (pe_ix (k_ixL (K := K)) (pv 0) (pv 2) (fun _ _ => rfl)) (pa_cons (pe_ix (k_ixL (K := K)) (pv 1) (pv 2) (fun _ _ => rfl)) pa_nil)))))) (fun _ _ _ _ _ => (pv 2))) (pe_lst pa_nil) (by rfl)))))) pss_nil) pss_never), ?_⟩
    refine ⟨_, rfl, by show 2 ≤ sizeLine; decide, fun t1 h1 => ?_⟩
    have s1 : Same H (upd H t1 (.tup [.ty "tuple", .ty "list"])) := same_new h1
    refine ⟨_, t1, _, _, _, true, rfl, upd_same, .cons (.ty _) (.cons (.ty _) .nil), .base (.lst (s1 _ _ hq)), tl_lst, true, rfl, iteT ?_⟩
    generalize upd H t1 (.tup [.ty "tuple", .ty "list"]) = H1 at s1
    refine ⟨_, rfl, by show 2 ≤ sizeLine; decide, fun t2 h2 => ?_⟩
    have s2 : Same H1 (upd H1 t2 (.tup [.ty "tuple", .ty "list"])) := same_new h2
    refine ⟨_, t2, _, _, _, true, rfl, upd_same, .cons (.ty _) (.cons (.ty _) .nil), .base (.lst (s2 _ _ (s1 _ _ hp))), tl_lst, true, rfl, iteF ?_⟩
    generalize upd H1 t2 (.tup [.ty "tuple", .ty "list"]) = H2 at s2
    have t := s1.trans s2
    have hp2 := t _ _ hp
    have hq2 := t _ _ hq
    refine ⟨_, rfl, _, _, _, _, true, rfl, .ty _, .base (.lst hp2), kit_ty (by decide +kernel), _, rfl, _, _, _, _, true, rfl, .ty _, .base (.lst hq2), kit_ty (by decide +kernel), rfl, false, rfl, iteF ?_⟩
    refine ⟨_, rfl, p, _, rfl, .inl (SqL.of hp2), _, rfl, q, _, rfl, .inl (SqL.of hq2), rfl, _, rfl, iteNS rfl ?_⟩
    refine ⟨_, rfl, q, _, rfl, .inl (SqL.of hq2), 2, rfl, by omega, by omega, fun D nD => ?_⟩
    refine lcF (L := List.range 2) (F := nV) walk_range0 nD (by rw [List.length_range]; omega) (fun _ => false) nV (fun _ _ => trivial) (fun _ => rfl) ?_ (fun _ _ h => Bool.noConfusion h) ?_
    · intro j hj H3 R s3 kk
      have hj := List.mem_range.mp hj
      have t3 := t.trans s3
      rcases (show j = 0 ∨ j = 1 by omega) with rfl | rfl
      · refine ⟨_, rfl, _, rfl, p, _, (0 : Nat), _, rfl, rfl, SqL.of (s3 _ _ hp2), atI_nat rfl, ?_⟩
        refine ⟨_, rfl, _, rfl, q, _, (0 : Nat), _, rfl, rfl, SqL.of (s3 _ _ hq2), atI_nat rfl, ?_⟩
        exact ⟨a, c, S, rfl, t3 _ _ ha, t3 _ _ hc, hS, fun H4 s4 => ⟨true, rfl, kk H4 s4⟩⟩
      · refine ⟨_, rfl, _, rfl, p, _, (1 : Nat), _, rfl, rfl, SqL.of (s3 _ _ hp2), atI_nat rfl, ?_⟩
        refine ⟨_, rfl, _, rfl, q, _, (1 : Nat), _, rfl, rfl, SqL.of (s3 _ _ hq2), atI_nat rfl, ?_⟩
        exact ⟨b, e, U, rfl, t3 _ _ hb, t3 _ _ he, hU, fun H4 s4 => ⟨true, rfl, kk H4 s4⟩⟩
    intro H3 s3 hD
    have eD : H3 D = some (.lst (([] : List Nat).map nV)) := hD
    refine ⟨Nat.zero_le _, fun e5 he5 => ?_⟩
    have u5 : Same H3 (upd H3 e5 (.lst [])) := same_new he5
    refine ⟨_, _, .lst (SqL.of (u5 _ _ eD)) (dpAll_nV _), .lst (SqL.of upd_same) (dpAll_nV []), shaped_lst _, shaped_lst [], ?_⟩
    rw [eqv_lst]
    exact k _ ((t.trans s3).trans u5)
end
end K1
namespace K1
open PySem PySem.Spec PyProof.Rows L2
section
variable {P : Program} {w : World} {K : PySem.W.Frag} {mg : Str → Option Value} {base : Heap}
/-! ### _law_board -/
theorem rep_flat (n : Nat) : (List.replicate n [V.int 0]).flatten = (List.replicate n (0 : Int)).map V.int := by
  induction n with
  | zero => rfl
  | succ n ih => rw [List.replicate_succ, List.flatten_cons, ih, List.replicate_succ]; rfl
theorem paired_get {α β : Type} {F : α → β → Prop} : ∀ {l : List α} {m : List β}, Paired F l m → ∀ (j : Nat) (x : α), l[j]? = some x → ∃ y, m[j]? = some y ∧ F x y
  | _, _, .nil, j, x, h => by simp at h
  | _, _, .cons r t, 0, x, h => by simp at h; subst h; exact ⟨_, rfl, r⟩
  | _, _, .cons r t, j + 1, x, h => by
    obtain ⟨y, h1, h2⟩ := paired_get t j x (by simpa using h)
    exact ⟨y, by simpa using h1, h2⟩
/-- all but two stay -/
def KB (r t : Addr) (H H' : Hp) : Prop := ∀ b o, b ≠ r → b ≠ t → H b = some o → H' b = some o
theorem KB.refl (r t : Addr) (H : Hp) : KB r t H H := fun _ _ _ _ e => e
theorem KB.trans {r t : Addr} {H H1 H2 : Hp} (a : KB r t H H1) (b : KB r t H1 H2) : KB r t H H2 := fun c o n m e => b c o n m (a c o n m e)
theorem KB.of {r t : Addr} {H H' : Hp} (s : SB r H H') : KB r t H H' := fun b o n _ e => s b o n e
theorem KB.upd (r t : Addr) (H : Hp) (o : HO) : KB r t H (upd H t o) := fun b x _ n e => by rw [upd_ne n]; exact e
theorem KB.tups {K : PySem.W.Frag} {H H' : Hp} {r t : Addr} {xs : List V} (h : RowOk K H r) (ht : H t = some (.lst xs)) (s : KB r t H H') : Tups H H' := fun b ys e => by
  obtain ⟨zs, h1⟩ := h.lst
  exact s b _ (ne_of e h1 (fun z => nomatch z)) (ne_of e ht (fun z => nomatch z)) e
theorem RowB.new {K : PySem.W.Frag} {Hb H : Hp} {r x : Addr} {o : HO} (h : RowB K Hb H r) (n : H x = none) : RowB K Hb (L2.upd H x o) r ∧ Hb x = none ∧ x ≠ r := by
  have hne : r ≠ x := h.ok.ne n
  have nb : Hb x = none := by
    cases e : Hb x with
    | none => rfl
    | some o => have := h.sb _ _ hne.symm e; rw [n] at this; cases this
  refine ⟨h.step (upd_ne hne) fun b y m e => ?_, nb, hne.symm⟩
  rw [upd_ne (ne_of_none e nb)]
  exact h.sb _ _ m e
theorem RowB.put {K : PySem.W.Frag} {Hb H : Hp} {r x : Addr} {o : HO} (h : RowB K Hb H r) (nb : Hb x = none) (hne : x ≠ r) : RowB K Hb (L2.upd H x o) r := by
  refine h.step (upd_ne hne.symm) fun b y m e => ?_
  rw [upd_ne (ne_of_none e nb)]
  exact h.sb _ _ m e
theorem KB.new {r t x : Addr} {H H' : Hp} {o : HO} (s : KB r t H H') (n : H' x = none) : KB r t H (L2.upd H' x o) := fun b y m1 m2 e => by
  have := s b y m1 m2 e
  rw [upd_ne (ne_of_none this n)]
  exact this
def smallP (p : Int × Int) : Prop := -1000 ≤ p.1 ∧ p.1 ≤ 1000 ∧ -1000 ≤ p.2 ∧ p.2 ≤ 1000
theorem lcD {K : PySem.W.Frag} {H H5 : Hp} {r a D : Addr} {xs : List V} {i : Nat} {te : TE} {vs : List Nat} {σ : L2.St} {Q : Hp → Prop} (rb : RowB K H H5 r) (ha : H5 a = some (.lst xs)) (har : a ≠ r) (nD : H5 D = none) (hlen : xs.length ≤ 1000)
    (hw : ∀ v, wipe ((wipe σ vs).set i (some v)) vs = wipe σ vs)
    (hte : ∀ H6 R x, RowB K H H6 r → (∀ H7 v, 0 ≤ v → v ≤ 6 → SB r H6 H7 → RowB K H H7 r → R (.int v) H7) → te ((wipe σ vs).set i (some x)) H6 R)
    (hq : ∀ H6 (ys : List Int), RowB K H H6 r → KB r D H5 H6 → ys.length = xs.length → (∀ y ∈ ys, 0 ≤ y ∧ y ≤ 6) → H6 D = some (.lst (ys.map V.int)) → Q H6) :
    ∃ W : Nat → Nat → Hp → Prop, (∃ m, W 0 m (L2.upd H5 D (.lst []))) ∧ ∀ k m H, W k m H →
      ((Itl K a).stop k H ∧ Q H) ∨ ((Itl K a).go k H ∧ ∃ Nx : Hp → Prop, (∀ H', Nx H' → ∃ m', m' < m ∧ W (k + 1) m' H') ∧ ∀ x H', (Itl K a).yld k H x H' → gName i x (wipe σ vs) H' fun σ2 H2 => wipe σ2 vs = wipe σ vs ∧ tYes σ2 H2 fun b H3 =>
        if b = true then te σ2 H3 fun y H4 => ∃ acc, H4 D = some (.lst acc) ∧ acc.length < sizeLine ∧ Nx (L2.upd H4 D (.lst (acc ++ [y]))) else Nx H3) := by
  obtain ⟨rb0, DH, Dr⟩ := rb.new (o := .lst []) nD
  have aD : a ≠ D := ne_of_none ha nD
  refine lc_it (walk_list (K := K) (a := a) (xs := xs)) (fun k H' => RowB K H H' r ∧ KB r D H5 H' ∧ ∃ ys : List Int, ys.length = k ∧ (∀ y ∈ ys, 0 ≤ y ∧ y ≤ 6) ∧ H' D = some (.lst (ys.map V.int)))
    ⟨rb0, KB.upd r D H5 _, [], rfl, by simp, upd_same⟩ (fun _ H' _ h => SqL.of (h.2.1 _ _ har aD ha)) ?_ ?_
  · rintro k v H6 H6' hk ⟨rb6, kb6, ys, l6, b6, e6⟩ ⟨rfl, hv⟩
    refine ⟨hw _, ?_⟩
    dsimp only [tYes]
    rw [if_pos rfl]
    refine hte _ _ _ rb6 fun H7 v7 a7 b7 t7 rb7 => ?_
    refine ⟨_, t7 _ _ Dr e6, small1000 (by rw [List.length_map]; omega), rb7.put DH Dr, (kb6.trans (KB.of t7)).trans (KB.upd r D H7 _), ys ++ [v7], by rw [List.length_append, l6]; rfl, fun y hy => ?_, by rw [upd_same, List.map_append]; rfl⟩
    rcases List.mem_append.mp hy with hy | hy
    · exact b6 y hy
    · rw [List.mem_singleton.mp hy]; exact ⟨a7, b7⟩
  · rintro H6 ⟨rb6, kb6, ys, l6, b6, e6⟩
    exact hq H6 ys rb6 kb6 l6 b6 e6
def sp__law_board (K : PySem.W.Frag) : Sp := fun vs H Q _ => ∃ r, vs = [.ref r, .int 4, .int 4, .int 3] ∧ RowOk K H r ∧ ∀ H' p B, SB r H H' → RowOk K H' r → BoardAt H' B p → BoardOk B → nB B ≤ 8 → Q (.ref p) H'
theorem ok__law_board {f : Addr} {fd : FuncData} (T : Txt K mg) (d : Dn K mg "_law_board" s__law_board ["_law_row", "_law_rows_here", "_law_columns_here", "_law_many"] f fd) : FnOk P w K mg base CX0 2 f fd ["_law_row", "_law_rows_here", "_law_columns_here", "_law_many"] (sp__law_board K) := by
  obtain ⟨f__law_taken, fd__law_taken, d__law_taken⟩ := T.h__law_taken
  have g__law_taken : FnOk P w K mg base CX0 1 f__law_taken fd__law_taken ["_law_row", "_law_many"] (sp__law_takenB K) := ok__law_takenB T d__law_taken
  refine d.F.ok sc__law_board (fun vs H Q E h => ?_) (fun cdv A outer s H vs Q E hr h => ?_)
  · obtain ⟨r, rfl, ro, k⟩ := h
    rfl
  · obtain ⟨r, rfl, ro, k⟩ := h
    have nd := sc__law_board.nd
    have hu := hu_of hr
    refine ⟨_, (pss_cons (ps_par3 (i := 4) (j := 5) (l := 6) rfl nd rfl rfl rfl (by decide) (by decide) (by decide) rfl rfl rfl (pa_cons (pe_op op_add pe_int (pe_call g__law_taken (hr.mono (by decide)) (by rfl) d__law_taken.g d__law_taken.F.kp d__law_taken.b .nil pass0 (pa_cons (pv 0) (pa_cons (pv 1) pa_nil)))) (pa_cons (pe_op op_add pe_int (pe_call g__law_taken (hr.mono (by decide)) (by rfl) d__law_taken.g d__law_taken.F.kp d__law_taken.b .nil pass0 (pa_cons (pv 0) (pa_cons (pv 2) pa_nil)))) (pa_cons (pe_lst pa_nil) pa_nil))) (by rfl))
      (pss_cons (ps_par (i := 7) (j := 8) rfl nd rfl rfl (by decide) rfl rfl (pa_cons (pe_op op_rep (pe_lst (pa_cons pe_int pa_nil)) (pv 4)) (pa_cons (pe_op op_rep (pe_lst (pa_cons pe_int pa_nil)) (pv 5)) pa_nil)) (by rfl))
      (pss_cons (ps_if (pt_cmpR op_gt (pe_call g__law_taken (hr.mono (by decide)) (by rfl) d__law_taken.g d__law_taken.F.kp d__law_taken.b .nil pass0 (pa_cons (pv 0) (pa_cons pe_int pa_nil))) pe_int (by rfl))
        (pss_cons (ps_setLc (i := 7) (own := [("_law_one", 9)]) rfl nd rfl rfl (sw_true rfl rfl rfl (by decide +kernel)) (k_piL (K := K) (pv 7)) (blkOk_by (N := ["_law_row", "_law_rows_here", "_law_columns_here", "_law_many", "_law_high", "_law_wide", "_law_found", "_law_first", "_law_second", "_law_one", "_law_told", "_law_at"]) (sc := defScope s__law_board) (by decide +kernel)) (fun _ _ _ _ _ => pg_name (i := 9) nd rfl (Or.inl rfl)) (fun _ _ _ _ _ => pts_nil) (fun _ _ _ _ _ => (pe_op op_mul pe_int (pe_call g__law_taken (hr.mono (by decide)) (by rfl) d__law_taken.g d__law_taken.F.kp d__law_taken.b .nil pass0 (pa_cons (pv 0) (pa_cons pe_int pa_nil))))))
        (pss_one (ps_setLc (i := 8) (own := [("_law_one", 9)]) rfl nd rfl rfl (sw_true rfl rfl rfl (by decide +kernel)) (k_piL (K := K) (pv 8)) (blkOk_by (N := ["_law_row", "_law_rows_here", "_law_columns_here", "_law_many", "_law_high", "_law_wide", "_law_found", "_law_first", "_law_second", "_law_one", "_law_told", "_law_at"]) (sc := defScope s__law_board) (by decide +kernel)) (fun _ _ _ _ _ => pg_name (i := 9) nd rfl (Or.inl rfl)) (fun _ _ _ _ _ => pts_nil) (fun _ _ _ _ _ => (pe_op op_mul pe_int (pe_call g__law_taken (hr.mono (by decide)) (by rfl) d__law_taken.g d__law_taken.F.kp d__law_taken.b .nil pass0 (pa_cons (pv 0) (pa_cons pe_int pa_nil))))))))
        pss_nil)
      (pss_cons (ps_for PassesOwn.never rfl (pi_range1 (by rfl) T.brange (pa_cons (pv 4) pa_nil)) (pg_name (i := 9) nd rfl (Or.inl rfl))
        (pss_cons (ps_set (i := 10) nd rfl (Or.inl rfl) (pe_lst pa_nil))
        (pss_cons (ps_for PassesOwn.never rfl (pi_range1 (by rfl) T.brange (pa_cons (pv 5) pa_nil)) (pg_name (i := 11) nd rfl (Or.inl rfl))
          (pss_one (ps_expr (pe_bm PySem.F.plainAttrs_list PySem.F.slot_list_append PySem.F.type_list_append mt_append (pv 10) (pa_cons (pe_tup (pa_cons (pe_op op_add (pe_ix (k_ixL (K := K)) (pv 7) (pv 9) (fun _ _ => rfl)) (pe_call g__law_taken (hr.mono (by decide)) (by rfl) d__law_taken.g d__law_taken.F.kp d__law_taken.b .nil pass0 (pa_cons (pv 0) (pa_cons (pv 3) pa_nil)))) (pa_cons (pe_op op_sub (pe_op op_add (pe_ix (k_ixL (K := K)) (pv 8) (pv 11) (fun _ _ => rfl)) (pe_call g__law_taken (hr.mono (by decide)) (by rfl) d__law_taken.g d__law_taken.F.kp d__law_taken.b .nil pass0 (pa_cons (pv 0) (pa_cons (pv 3) pa_nil)))) pe_int) pa_nil))) pa_nil)))))
        (pss_one (ps_expr (pe_bm PySem.F.plainAttrs_list PySem.F.slot_list_append PySem.F.type_list_append mt_append (pv 6) (pa_cons (pe_callTy (T := "tuple") (kc_tuple (K := K)) (by rfl) T.btuple (by decide +kernel) (pa_cons (pv 10) pa_nil)) pa_nil)))))))
      (pss_one (ps_ret (pe_callTy (T := "tuple") (kc_tuple (K := K)) (by rfl) T.btuple (by decide +kernel) (pa_cons (pv 6) pa_nil)))))))), ?_⟩
    have rb := ro.b
    refine ⟨_, rfl, _, rfl, r, _, H, rfl, rb, by decide, by decide, fun H1 v1 a1 b1 t1 rb1 => ?_⟩
    refine ⟨_, _, rfl, rfl, _, rfl, _, rfl, r, _, H, rfl, rb1, by decide, by decide, fun H2 v2 a2 b2 t2 rb2 => ?_⟩
    refine ⟨_, _, rfl, rfl, Nat.zero_le _, fun fl hfl => ⟨V.int (1 + v1), V.int (1 + v2), V.ref fl, rfl, ?_⟩⟩
    obtain ⟨rb3, flH, flr⟩ := rb2.new (o := .lst []) hfl
    have e3 : L2.upd H2 fl (.lst []) fl = some (.lst []) := upd_same
    generalize L2.upd H2 fl (.lst []) = H3 at rb3 e3
    generalize e1 : 1 + v1 = hi
    obtain ⟨h, rfl⟩ := Int.eq_ofNat_of_zero_le (show 0 ≤ hi by omega)
    generalize e2 : 1 + v2 = wi
    obtain ⟨wd, rfl⟩ := Int.eq_ofNat_of_zero_le (show 0 ≤ wi by omega)
    have h1 : 1 ≤ h := by omega
    have h4 : h ≤ 4 := by omega
    have w1 : 1 ≤ wd := by omega
    have w4 : wd ≤ 4 := by omega
    refine ⟨by show 1 ≤ sizeLine; decide, fun q1 hq1 => ⟨_, rfl, q1, (h : Int), _, rfl, rfl, upd_same, by omega, by omega, len_small (by simp; omega), fun fa hfa => ?_⟩⟩
    obtain ⟨rb4, q1H, q1r⟩ := rb3.new (o := .lst [.int 0]) hq1
    have s4 : Same H3 (L2.upd H3 q1 (.lst [.int 0])) := same_new hq1
    generalize L2.upd H3 q1 (.lst [.int 0]) = H4 at rb4 s4 hfa
    obtain ⟨rb5, faH, far⟩ := rb4.new (o := .lst ((List.replicate h (0 : Int)).map V.int)) hfa
    have s5 : Same H4 (L2.upd H4 fa (.lst ((List.replicate h (0 : Int)).map V.int))) := same_new hfa
    have f5 : L2.upd H4 fa (.lst ((List.replicate h (0 : Int)).map V.int)) fa = some (.lst ((List.replicate h (0 : Int)).map V.int)) := upd_same
    have fafl : fa ≠ fl := (ne_of_none (s4 _ _ e3) hfa).symm
    have er1 : (List.replicate ((h : Int)).toNat [V.int 0]).flatten = (List.replicate h (0 : Int)).map V.int := rep_flat h
    rw [er1]
    generalize L2.upd H4 fa (.lst ((List.replicate h (0 : Int)).map V.int)) = H5 at rb5 s5 f5
    refine ⟨by show 1 ≤ sizeLine; decide, fun q2 hq2 => ⟨_, rfl, q2, (wd : Int), _, rfl, rfl, upd_same, by omega, by omega, len_small (by simp; omega), fun sa hsa => ⟨V.ref fa, V.ref sa, rfl, ?_⟩⟩⟩
    obtain ⟨rb6, q2H, q2r⟩ := rb5.new (o := .lst [.int 0]) hq2
    have s6 : Same H5 (L2.upd H5 q2 (.lst [.int 0])) := same_new hq2
    generalize L2.upd H5 q2 (.lst [.int 0]) = H6 at rb6 s6 hsa
    have er2 : (List.replicate ((wd : Int)).toNat [V.int 0]).flatten = (List.replicate wd (0 : Int)).map V.int := rep_flat wd
    rw [er2]
    obtain ⟨rb7, saH, sar⟩ := rb6.new (o := .lst ((List.replicate wd (0 : Int)).map V.int)) hsa
    have s7 : Same H6 (L2.upd H6 sa (.lst ((List.replicate wd (0 : Int)).map V.int))) := same_new hsa
    have g7 : L2.upd H6 sa (.lst ((List.replicate wd (0 : Int)).map V.int)) sa = some (.lst ((List.replicate wd (0 : Int)).map V.int)) := upd_same
    have safl : sa ≠ fl := (ne_of_none (s6 _ _ (s5 _ _ (s4 _ _ e3))) hsa).symm
    generalize L2.upd H6 sa (.lst ((List.replicate wd (0 : Int)).map V.int)) = H7 at rb7 s7 g7
    have f7 := s7 _ _ (s6 _ _ f5)
    have l7 := s7 _ _ (s6 _ _ (s5 _ _ (s4 _ _ e3)))
    refine ⟨_, rfl, r, _, H, rfl, rb7, by decide, by decide, fun H8 v3 a3 b3 t8 rb8 => ?_⟩
    have f8 := t8 _ _ far f7
    have g8 := t8 _ _ sar g7
    have l8 := t8 _ _ flr l7
    refine ⟨_, _, rfl, rfl, _, rfl, ite2 (fun _ => ?_) (fun _ => ?_)⟩
    refine ⟨_, rfl, fa, rfl, ⟨_, SqL.of f8⟩, fun D nD => ?_⟩
    refine lcD rb8 f8 far nD (by rw [List.length_map, List.length_replicate]; omega) (fun _ => rfl) ?_ ?_
    · intro H9 R x rb9 kk
      refine ⟨_, rfl, r, _, H, rfl, rb9, by decide, by decide, fun H10 v a b t rb => ?_⟩
      exact ⟨_, _, rfl, rfl, .inl ⟨by decide, by decide⟩, kk H10 _ (by omega) (by omega) t rb⟩
    intro H9 F rb9 kb9 lF bF eF
    rw [List.length_map, List.length_replicate] at lF
    obtain ⟨_, DH, Dr⟩ := rb8.new (o := .lst []) nD
    have saD : sa ≠ D := ne_of_none g8 nD
    have flD : fl ≠ D := ne_of_none l8 nD
    have g9 := kb9 _ _ sar saD g8
    have l9 := kb9 _ _ flr flD l8
    refine ⟨_, rfl, sa, rfl, ⟨_, SqL.of g9⟩, fun D2 nD2 => ?_⟩
    refine lcD rb9 g9 sar nD2 (by rw [List.length_map, List.length_replicate]; omega) (fun _ => rfl) ?_ ?_
    · intro H9 R x rb9 kk
      refine ⟨_, rfl, r, _, H, rfl, rb9, by decide, by decide, fun H10 v a b t rb => ?_⟩
      exact ⟨_, _, rfl, rfl, .inl ⟨by decide, by decide⟩, kk H10 _ (by omega) (by omega) t rb⟩
    intro H10 G rb10 kb10 lG bG eG
    rw [List.length_map, List.length_replicate] at lG
    obtain ⟨_, D2H, D2r⟩ := rb9.new (o := .lst []) nD2
    have flD2 : fl ≠ D2 := ne_of_none l9 nD2
    have DD2 : D ≠ D2 := ne_of_none eF nD2
    have eF := kb10 _ _ Dr DD2 eF
    have l10 := kb10 _ _ flr flD2 l9
    have Dfl := flD.symm
    have D2fl := flD2.symm
    clear f8 g8 l8 rb8 f7 g7 l7 rb7 fafl safl far sar faH saH kb9 kb10 rb9 nD nD2 saD g9 l9 flD flD2 t8 hsa hfa er1 er2 f5
    rotate_left
    have lF : (List.replicate h (0 : Int)).length = h := List.length_replicate
    have bF : ∀ y ∈ List.replicate h (0 : Int), 0 ≤ y ∧ y ≤ 6 := fun y hy => by rw [(List.mem_replicate.mp hy).2]; decide
    have lG : (List.replicate wd (0 : Int)).length = wd := List.length_replicate
    have bG : ∀ y ∈ List.replicate wd (0 : Int), 0 ≤ y ∧ y ≤ 6 := fun y hy => by rw [(List.mem_replicate.mp hy).2]; decide
    generalize (List.replicate h (0 : Int)) = F at *
    generalize (List.replicate wd (0 : Int)) = G at *
    have eF := f8
    have eG := g8
    have l10 := l8
    have rb10 := rb8
    have Dr := far
    have D2r := sar
    have Dfl := fafl
    have D2fl := safl
    generalize fa = D at *
    generalize sa = D2 at *
    generalize H8 = H10 at *
    clear f8 g8 l8 f7 g7 l7 rb7 fafl safl far sar faH saH t8 hsa hfa er1 er2 f5
    all_goals
      refine ⟨_, rfl, (h : Int), rfl, by omega, by omega, ?_⟩
      refine for_it (walk_range0 (n := h)) (fun i σ H' => ∃ v9 v10 v11 rs rows, σ = [some (.ref r), some (.int 4), some (.int 4), some (.int 3), some (nV h), some (nV wd), some (.ref fl), some (.ref D), some (.ref D2), v9, v10, v11] ∧
          RowB K H H' r ∧ KB r fl H10 H' ∧ H' fl = some (.lst ((rs : List Addr).map V.ref)) ∧ Paired (RowAt H') (rows : List (List (Int × Int))) rs ∧ rows.length = i ∧ ∀ row ∈ rows, row.length = wd ∧ ∀ p ∈ row, smallP p)
        ⟨none, none, none, [], [], rfl, rb10, KB.refl r fl H10, l10, .nil, rfl, fun x hx => by simp at hx⟩ (fun _ _ _ _ _ => trivial) ?_ ?_
      · rintro i v σ H11 H11' hi ⟨v9, v10, v11, rs, rows, rfl, rb11, kb11, l11, pr11, len11, ok11⟩ ⟨rfl, hv⟩
        rw [List.length_range] at hi
        obtain rfl : v = nV i := by
          rw [List.getElem?_map, List.getElem?_range hi] at hv
          exact (Option.some.inj hv).symm
        refine ⟨Nat.zero_le _, fun tl htl => ?_⟩
        have s12 : Same H11' (L2.upd H11' tl (.lst [])) := same_new htl
        obtain ⟨rb12, tlH, tlr⟩ := rb11.new (o := .lst []) htl
        have e12 : L2.upd H11' tl (.lst []) tl = some (.lst []) := upd_same
        generalize L2.upd H11' tl (.lst []) = H12 at s12 rb12 e12
        have F11 := kb11 _ _ Dr Dfl eF
        have G11 := kb11 _ _ D2r D2fl eG
        have tlD := ne_of_none F11 htl
        have tlD2 := ne_of_none G11 htl
        have tlfl := ne_of_none l11 htl
        have F12 := s12 _ _ F11
        have G12 := s12 _ _ G11
        have l12 := s12 _ _ l11
        have pr12 : Paired (RowAt H12) rows rs := Paired.mapP pr11 fun _ _ z => z.tups s12.tups
        refine ⟨_, rfl, (wd : Int), rfl, by omega, by omega, ?_⟩
        refine for_it (walk_range0 (n := wd)) (fun j σ H' => ∃ v11 qs ps, σ = [some (.ref r), some (.int 4), some (.int 4), some (.int 3), some (nV h), some (nV wd), some (.ref fl), some (.ref D), some (.ref D2), some (nV i), some (.ref tl), v11] ∧
            RowB K H H' r ∧ KB r tl H12 H' ∧ H' tl = some (.lst ((qs : List Addr).map V.ref)) ∧ Paired (PlaceAt H') (ps : List (Int × Int)) qs ∧ ps.length = j ∧ ∀ p ∈ ps, smallP p)
          ⟨v11, [], [], rfl, rb12, KB.refl r tl H12, e12, .nil, rfl, fun x hx => by simp at hx⟩ (fun _ _ _ _ _ => trivial) ?_ ?_
        · rintro j v σ H13 H13' hj ⟨v11, qs, ps, rfl, rb13, kb13, e13, pr13, len13, ok13⟩ ⟨rfl, hv⟩
          rw [List.length_range] at hj
          obtain rfl : v = nV j := by
            rw [List.getElem?_map, List.getElem?_range hj] at hv
            exact (Option.some.inj hv).symm
          have F13 := kb13 _ _ Dr tlD F12
          have G13 := kb13 _ _ D2r tlD2 G12
          have gF : (F.map V.int)[i]? = some (.int (F.getD i 0)) := by
            have hi' : i < F.length := by omega
            rw [List.getElem?_map, List.getElem?_eq_getElem hi', List.getD_eq_getElem?_getD, List.getElem?_eq_getElem hi']
            rfl
          have gG : (G.map V.int)[j]? = some (.int (G.getD j 0)) := by
            have hj' : j < G.length := by omega
            rw [List.getElem?_map, List.getElem?_eq_getElem hj', List.getD_eq_getElem?_getD, List.getElem?_eq_getElem hj']
            rfl
          have bf : 0 ≤ F.getD i 0 ∧ F.getD i 0 ≤ 6 := by
            have hi' : i < F.length := by omega
            rw [List.getD_eq_getElem?_getD, List.getElem?_eq_getElem hi']
            exact bF _ (List.getElem_mem hi')
          have bg : 0 ≤ G.getD j 0 ∧ G.getD j 0 ≤ 6 := by
            have hj' : j < G.length := by omega
            rw [List.getD_eq_getElem?_getD, List.getElem?_eq_getElem hj']
            exact bG _ (List.getElem_mem hj')
          generalize F.getD i 0 = x at gF bf
          generalize G.getD j 0 = y at gG bg
          refine ⟨_, rfl, .inl ⟨rfl, _, SqL.of e13⟩, ?_⟩
          refine ⟨_, rfl, _, rfl, D, _, _, _, rfl, rfl, SqL.of F13, atI_nat gF, _, rfl, _, rfl, r, _, H, rfl, rb13, by decide, by decide, fun H14 va ca da ta rba => ?_⟩
          have G14 := ta _ _ D2r G13
          refine ⟨_, _, rfl, rfl, _, rfl, _, rfl, D2, _, _, _, rfl, rfl, SqL.of G14, atI_nat gG, _, rfl, _, rfl, r, _, H, rfl, rba, by decide, by decide, fun H15 vb cb db tb rbb => ?_⟩
          refine ⟨_, _, rfl, rfl, _, _, rfl, rfl, by show 2 ≤ sizeLine; decide, fun tp htp => ?_⟩
          have e15 := tb _ _ tlr (ta _ _ tlr e13)
          have s16 : Same H15 (L2.upd H15 tp (.tup [.int (x + va), .int (y + vb - 1)])) := same_new htp
          obtain ⟨rb16, tpH, tpr⟩ := rbb.new (o := .tup [.int (x + va), .int (y + vb - 1)]) htp
          have p16 : PlaceAt (L2.upd H15 tp (.tup [.int (x + va), .int (y + vb - 1)])) (x + va, y + vb - 1) tp := upd_same
          obtain ⟨H16, hH16⟩ : ∃ H16, H16 = L2.upd H15 tp (.tup [.int (x + va), .int (y + vb - 1)]) := ⟨_, rfl⟩
          rw [← hH16] at s16 rb16 p16
          have e16 := s16 _ _ e15
          have kb : KB r tl H13' H16 := (KB.of (ta.trans tb)).trans (KB.of (SB.of s16))
          refine ⟨tl, qs.map V.ref, .ref tp, rfl, rfl, by rw [hH16] at e16; exact e16, small1000 ?_, ?_⟩
          · have := Paired.length pr13
            rw [List.length_map]
            omega
          · have tps : Tups H13' H16 := KB.tups rb13.ok e13 kb
            have tps2 : Tups H16 (L2.upd H16 tl (.lst (qs.map V.ref ++ [.ref tp]))) := tups_lst e16
            rw [hH16] at rb16 kb tps tps2 p16
            refine ⟨_, qs ++ [tp], ps ++ [(x + va, y + vb - 1)], rfl, rb16.put tlH tlr, (kb13.trans kb).trans (KB.upd r tl _ _), upd_same.trans (by rw [List.map_append]; rfl), ?_, by rw [List.length_append, len13]; rfl, fun p hp => ?_⟩
            · exact paired_snoc (Paired.mapP pr13 fun _ _ z => (tps.trans tps2) _ _ z) (tps2 _ _ p16)
            · rcases List.mem_append.mp hp with hp | hp
              · exact ok13 p hp
              · rw [List.mem_singleton.mp hp]
                exact ⟨by show -1000 ≤ x + va; omega, by show x + va ≤ 1000; omega, by show -1000 ≤ y + vb - 1; omega, by show y + vb - 1 ≤ 1000; omega⟩
        · rintro σ H13 ⟨v11, qs, ps, rfl, rb13, kb13, e13, pr13, len13, ok13⟩
          rw [List.length_range] at len13
          have l13 := kb13 _ _ flr tlfl l12
          refine ⟨_, rfl, .inl ⟨rfl, _, SqL.of l13⟩, _, rfl, tl, _, rfl, .inl ⟨SqL.of e13, fun rw1 hrw => ?_⟩⟩
          have s14 : Same H13 (L2.upd H13 rw1 (.tup (qs.map V.ref))) := same_new hrw
          obtain ⟨rb14, rwH, rwr⟩ := rb13.new (o := .tup (qs.map V.ref)) hrw
          have e14 : L2.upd H13 rw1 (.tup (qs.map V.ref)) rw1 = some (.tup (qs.map V.ref)) := upd_same
          generalize L2.upd H13 rw1 (.tup (qs.map V.ref)) = H14 at s14 rb14 e14
          have l14 := s14 _ _ l13
          have tps : Tups H12 H14 := (KB.tups rb12.ok e12 kb13).trans s14.tups
          have tps2 : Tups H14 (L2.upd H14 fl (.lst (rs.map V.ref ++ [.ref rw1]))) := tups_lst l14
          have kb : KB r fl H11' H14 := by
            intro b o m1 m2 e
            have m3 : b ≠ tl := ne_of_none e htl
            exact s14 _ _ (kb13 _ _ m1 m3 (s12 _ _ e))
          have plen := Paired.length pr11
          have plen2 := Paired.length pr13
          refine ⟨fl, _, _, rfl, rfl, l14, small1000 (by rw [List.length_map]; omega), ?_⟩
          refine ⟨_, _, _, rs ++ [rw1], rows ++ [ps], rfl, rb14.put flH flr, (kb11.trans kb).trans (KB.upd r fl H14 _), by rw [upd_same, List.map_append]; rfl, ?_, by rw [List.length_append, len11]; rfl, fun row hrow => ?_⟩
          · refine paired_snoc (Paired.mapP pr12 fun _ _ z => z.tups (tps.trans tps2)) ?_
            refine ⟨qs, tps2 _ _ e14, plen2.symm, fun j p e => ?_⟩
            obtain ⟨q, e1, e2⟩ := paired_get pr13 j p e
            exact ⟨q, e1, tps2 _ _ (s14 _ _ e2)⟩
          · rcases List.mem_append.mp hrow with hrow | hrow
            · exact ok11 row hrow
            · rw [List.mem_singleton.mp hrow]
              exact ⟨len13, ok13⟩
      · rintro σ H11 ⟨v9, v10, v11, rs, rows, rfl, rb11, kb11, l11, pr11, len11, ok11⟩
        rw [List.length_range] at len11
        refine ⟨_, rfl, fl, _, rfl, .inl ⟨SqL.of l11, fun bp hbp => ?_⟩⟩
        have s12 : Same H11 (L2.upd H11 bp (.tup (rs.map V.ref))) := same_new hbp
        obtain ⟨rb12, bpH, bpr⟩ := rb11.new (o := .tup (rs.map V.ref)) hbp
        have plen := Paired.length pr11
        have hb : hB rows = h := len11
        have w0 : wB rows = wd := by
          unfold wB
          rw [List.getD_eq_getElem?_getD, List.getElem?_eq_getElem (show 0 < rows.length by omega)]
          exact (ok11 _ (List.getElem_mem _)).1
        refine k _ bp rows rb12.sb rb12.ok ⟨rs, upd_same, plen.symm, fun i row e => ?_⟩ ?_ (by show hB rows + wB rows ≤ 8; omega)
        · obtain ⟨q, e1, e2⟩ := paired_get pr11 i row e
          exact ⟨q, e1, e2.tups s12.tups⟩
        · exact ⟨by omega, by omega, by omega, by omega, fun row hrow => by rw [w0]; exact (ok11 row hrow).1, fun row hrow p hp => (ok11 row hrow).2 p hp⟩
end
end K1
namespace K1
open PySem PySem.Spec PyProof.Rows L2
section
variable {P : Program} {w : World} {K : PySem.W.Frag} {mg : Str → Option Value} {base : Heap}
/-! ### dicts of lots -/
def addL (L : List (List Nat)) (S : List Nat) : List (List Nat) := if S ∈ L then L else L ++ [S]
theorem mem_addL {L : List (List Nat)} {S T : List Nat} : T ∈ addL L S ↔ T ∈ L ∨ T = S := by
  unfold addL
  split
  · rename_i h
    constructor
    · exact .inl
    · rintro (x | rfl)
      · exact x
      · exact h
  · rw [List.mem_append, List.mem_singleton]
theorem nodup_addL {L : List (List Nat)} {S : List Nat} (h : L.Nodup) : (addL L S).Nodup := by
  unfold addL
  split
  · exact h
  · rename_i q
    rw [List.nodup_append]
    exact ⟨h, by simp, fun x hx y hy e => q (by rw [List.mem_singleton.mp hy] at e; rw [← e]; exact hx)⟩
/-- a dict of whole numbers by lots -/
def DicL (H : Hp) (d : Addr) (kvs : List (List Key × V)) (L : List (List Nat)) : Prop :=
  H d = some (.dT kvs) ∧ kvs.map (·.1) = L.map keyOf ∧ L.Nodup ∧ ∀ p ∈ kvs, ∃ n : Int, p.2 = .int n
theorem DicL.len {H : Hp} {d : Addr} {kvs : List (List Key × V)} {L : List (List Nat)} (h : DicL H d kvs L) : kvs.length = L.length := by
  have := congrArg List.length h.2.1
  rw [List.length_map, List.length_map] at this
  exact this
theorem DicL.has {H : Hp} {d : Addr} {kvs : List (List Key × V)} {L : List (List Nat)} (h : DicL H d kvs L) (S : List Nat) : (valV kvs (keyOf S)).isSome = decide (S ∈ L) := by
  rw [← valV_any, Bool.eq_iff_iff, List.any_eq_true, decide_eq_true_iff]
  constructor
  · rintro ⟨p, hp, e⟩
    have e := of_decide_eq_true e
    have m : p.1 ∈ L.map keyOf := by rw [← h.2.1]; exact List.mem_map.mpr ⟨p, hp, rfl⟩
    obtain ⟨T, hT, eT⟩ := List.mem_map.mp m
    have : T = S := keyOf_inj (eT.trans e)
    rw [← this]; exact hT
  · intro hS
    have m : keyOf S ∈ kvs.map (·.1) := by rw [h.2.1]; exact List.mem_map.mpr ⟨S, hS, rfl⟩
    obtain ⟨p, hp, e⟩ := List.mem_map.mp m
    exact ⟨p, hp, decide_eq_true e⟩
theorem DicL.val {H : Hp} {d : Addr} {kvs : List (List Key × V)} {L : List (List Nat)} (h : DicL H d kvs L) {S : List Nat} (hS : S ∈ L) : ∃ n : Int, valV kvs (keyOf S) = some (.int n) := by
  have e := h.has S
  rw [decide_eq_true hS] at e
  obtain ⟨x, hx⟩ := Option.isSome_iff_exists.mp e
  unfold valV at hx ⊢
  obtain ⟨p, hp, rfl⟩ := Option.map_eq_some_iff.mp hx
  obtain ⟨n, en⟩ := h.2.2.2 p (List.mem_of_find?_eq_some hp)
  exact ⟨n, by rw [hx, en]⟩
theorem DicL.get {H : Hp} {d : Addr} {kvs : List (List Key × V)} {L : List (List Nat)} (h : DicL H d kvs L) (S : List Nat) : ∃ n : Int, (valV kvs (keyOf S)).getD (.int 0) = .int n := by
  by_cases c : S ∈ L
  · obtain ⟨n, e⟩ := h.val c
    exact ⟨n, by rw [e]; rfl⟩
  · have e := h.has S
    rw [decide_eq_false c] at e
    cases hv : valV kvs (keyOf S) with
    | none => exact ⟨0, rfl⟩
    | some x => rw [hv] at e; cases e
theorem DicL.put {H : Hp} {d : Addr} {kvs : List (List Key × V)} {L : List (List Nat)} (h : DicL H d kvs L) (S : List Nat) (n : Int) : DicL (L2.upd H d (.dT (putK kvs (keyOf S) (.int n)))) d (putK kvs (keyOf S) (.int n)) (addL L S) := by
  refine ⟨upd_same, ?_, nodup_addL h.2.2.1, ?_⟩
  · unfold putK addL
    rw [valV_any, h.has S]
    by_cases c : S ∈ L
    · rw [if_pos (decide_eq_true c), if_pos c, ← h.2.1, List.map_map]
      refine List.map_congr_left fun p _ => ?_
      show (if p.1 = keyOf S then (p.1, V.int n) else p).1 = p.1
      split <;> rfl
    · rw [if_neg (fun z => c (of_decide_eq_true z)), if_neg c, List.map_append, List.map_append, h.2.1]
      rfl
  · intro p hp
    unfold putK at hp
    split at hp
    · obtain ⟨q, hq, rfl⟩ := List.mem_map.mp hp
      split
      · exact ⟨n, rfl⟩
      · exact h.2.2.2 q hq
    · rcases List.mem_append.mp hp with hp | hp
      · exact h.2.2.2 p hp
      · rw [List.mem_singleton.mp hp]; exact ⟨n, rfl⟩
theorem DicL.move {H H' : Hp} {d : Addr} {kvs : List (List Key × V)} {L : List (List Nat)} (h : DicL H d kvs L) (e : ∀ o, H d = Option.some o → H' d = Option.some o) : DicL H' d kvs L := ⟨e _ h.1, h.2⟩
/-- the keys that list(dict) lays, by lots -/
theorem DicL.keys {H : Hp} {d : Addr} {kvs : List (List Key × V)} {L : List (List Nat)} (h : DicL H d kvs L) {bs : List Addr} (hb : IsKeys H kvs bs) : bs.length = L.length ∧ ∀ (i : Nat) (S : List Nat), L[i]? = Option.some S → ∃ b, bs[i]? = Option.some b ∧ H b = Option.some (.tup (S.map nV)) := by
  refine ⟨(Paired.length hb).symm.trans h.len, fun i S e => ?_⟩
  have e1 : (kvs.map (·.1))[i]? = Option.some (keyOf S) := by rw [h.2.1, List.getElem?_map, e]; rfl
  rw [List.getElem?_map] at e1
  obtain ⟨p, hp, ep⟩ := Option.map_eq_some_iff.mp e1
  obtain ⟨b, h1, h2⟩ := paired_get hb i p hp
  refine ⟨b, h1, ?_⟩
  rw [h2, ep, keyOf_kV]
theorem tup_key {H : Hp} {b : Addr} {S : List Nat} (h : H b = some (.tup (S.map nV))) : H b = some (.tup ((keyOf S).map kV)) := by rw [h, keyOf_kV]
theorem SB.tupsD {r : Addr} {H H' : Hp} {kvs : List (List Key × V)} (h : H r = some (.dT kvs)) (s : SB r H H') : Tups H H' := fun b ys e => s b _ (ne_of e h (fun z => nomatch z)) e
theorem many_small {B : Board} (bo : BoardOk B) {L : List (List Nat)} (nd : L.Nodup) (h : ∀ S ∈ L, Comes B S) : L.length < sizeLine := by
  have h1 := many_le nd (n := 12) fun S hS => by
    obtain ⟨s, hs⟩ := h S hS
    exact ⟨hs.rising, fun x hx => by have := hs.lt x hx; have := nB_le bo; omega⟩
  have h2 : (2 : Nat) ^ 12 = 4096 := by decide
  rw [h2] at h1
  rw [sizeLine_eq]
  omega
theorem same_sb {r : Addr} {H H1 H2 : Hp} (s : Same H H1) (t : SB r H1 H2) (n : H r = none) : Same H H2 := fun b o e => t b o (ne_of_none e n) (s b o e)
def sp__law_all (K : PySem.W.Frag) : Sp := fun vs H Q _ => ∃ a B, vs = [.ref a] ∧ BoardAt H B a ∧ BoardOk B ∧
  ∀ H' d kvs L, Same H H' → DicL H' d kvs L → (∀ S, S ∈ L ↔ Comes B S) → Q (.ref d) H'
theorem ok__law_all {f : Addr} {fd : FuncData} (T : Txt K mg) (d : Dn K mg "_law_all" s__law_all ["_law_board_here"] f fd) : FnOk P w K mg base CX0 5 f fd ["_law_board_here"] (sp__law_all K) := by
  obtain ⟨f__law_ready, fd__law_ready, d__law_ready⟩ := T.h__law_ready
  have g__law_ready : FnOk P w K mg base CX0 4 f__law_ready fd__law_ready ["_law_board_here", "_law_lot_here"] (sp__law_ready K) := ok__law_ready T d__law_ready
  obtain ⟨f__law_with, fd__law_with, d__law_with⟩ := T.h__law_with
  have g__law_with : FnOk P w K mg base CX0 1 f__law_with fd__law_with ["_law_lot_here", "_law_line"] (sp__law_with K) := ok__law_with T d__law_with
  refine d.F.ok sc__law_all (fun vs H Q E h => ?_) (fun cdv A outer s H vs Q E hr h => ?_)
  · obtain ⟨a, B, rfl, hb, bo, k⟩ := h
    rfl
  · obtain ⟨a, B, rfl, hb, bo, k⟩ := h
    have nd := sc__law_all.nd
    have hu := hu_of hr
    refine ⟨_, (pss_cons (ps_par (i := 1) (j := 2) rfl nd rfl rfl (by decide) rfl rfl (pa_cons (pe_disp1T hu (pe_tup pa_nil) pe_int) (pa_cons (pe_disp1T hu (pe_tup pa_nil) pe_int) pa_nil)) (by rfl))
      (pss_cons (ps_while PassesOwn.never (pt_cmpR (op_neDT hr.units0) (pv 2) pe_dnewT (by rfl))
        (pss_cons (ps_set (i := 3) nd rfl (Or.inl rfl) pe_dnewT)
        (pss_cons (ps_for PassesOwn.never rfl (k_piL (K := K) (pe_callTy (T := "list") (call_list_dT rfl) (by rfl) T.blist (by decide +kernel) (pa_cons (pv 2) pa_nil))) (pg_name (i := 4) nd rfl (Or.inl rfl))
          (pss_one (ps_for PassesOwn.never rfl (k_piL (K := K) (pe_call g__law_ready (hr.mono (by decide)) (by rfl) d__law_ready.g d__law_ready.F.kp d__law_ready.b .nil pass0 (pa_cons (pv 0) (pa_cons (pv 4) pa_nil)))) (pg_name (i := 5) nd rfl (Or.inl rfl))
            (pss_cons (ps_set (i := 6) nd rfl (Or.inl rfl) (pe_call g__law_with (hr.mono (by decide)) (by rfl) d__law_with.g d__law_with.F.kp d__law_with.b .nil pass0 (pa_cons (pv 4) (pa_cons (pv 5) pa_nil))))
            (pss_one (ps_dput hu (pv 3) (pv 6) (pe_op op_add (pe_dget2 hu (pv 3) (pv 6) pe_int ⟨rfl, rfl, rfl, rfl⟩) (pe_dget hu (pv 2) (pv 4) (fun _ _ => rfl))) rfl))))))
        (pss_cons (ps_for PassesOwn.never rfl (k_piL (K := K) (pe_callTy (T := "list") (call_list_dT rfl) (by rfl) T.blist (by decide +kernel) (pa_cons (pv 3) pa_nil))) (pg_name (i := 4) nd rfl (Or.inl rfl))
          (pss_one (ps_dput hu (pv 1) (pv 4) (pe_dget hu (pv 3) (pv 4) (fun _ _ => rfl)) rfl)))
        (pss_one (ps_set (i := 2) nd rfl (Or.inl rfl) (pv 3)))))))
      (pss_one (ps_ret (pv 1))))), ?_⟩
    intro fd hfd
    refine ⟨Nat.zero_le _, fun q0 hq0 => ⟨q0, [], rfl, upd_same, (upd_ne (ne_of_none upd_same hq0)).trans upd_same, ?_⟩⟩
    have u0 : Same H (L2.upd H fd (.dT [])) := same_new hfd
    have u1 : Same (L2.upd H fd (.dT [])) (L2.upd (L2.upd H fd (.dT [])) q0 (.tup [])) := same_new hq0
    have u2 : Same H (L2.upd (L2.upd (L2.upd H fd (.dT [])) q0 (.tup [])) fd (.dT [([], .int 1)])) := same_upd (u0.trans u1) hfd
    have f2 : DicL (L2.upd (L2.upd (L2.upd H fd (.dT [])) q0 (.tup [])) fd (.dT [([], .int 1)])) fd [([], .int 1)] [[]] := ⟨upd_same, rfl, by simp, fun p hp => by rw [List.mem_singleton.mp hp]; exact ⟨1, rfl⟩⟩
    generalize L2.upd (L2.upd (L2.upd H fd (.dT [])) q0 (.tup [])) fd (.dT [([], .int 1)]) = H2 at u2 f2
    intro ed hed
    refine ⟨Nat.zero_le _, fun q1 hq1 => ⟨q1, [], rfl, upd_same, (upd_ne (ne_of_none upd_same hq1)).trans upd_same, ?_⟩⟩
    have w0 : Same H2 (L2.upd H2 ed (.dT [])) := same_new hed
    have w1 : Same (L2.upd H2 ed (.dT [])) (L2.upd (L2.upd H2 ed (.dT [])) q1 (.tup [])) := same_new hq1
    have w2 : Same H2 (L2.upd (L2.upd (L2.upd H2 ed (.dT [])) q1 (.tup [])) ed (.dT [([], .int 1)])) := same_upd (w0.trans w1) hed
    have e2 : DicL (L2.upd (L2.upd (L2.upd H2 ed (.dT [])) q1 (.tup [])) ed (.dT [([], .int 1)])) ed [([], .int 1)] [[]] := ⟨upd_same, rfl, by simp, fun p hp => by rw [List.mem_singleton.mp hp]; exact ⟨1, rfl⟩⟩
    generalize L2.upd (L2.upd (L2.upd H2 ed (.dT [])) q1 (.tup [])) ed (.dT [([], .int 1)]) = H3 at w2 e2
    have fded : fd ≠ ed := ne_of_none f2.1 hed
    refine ⟨V.ref fd, V.ref ed, rfl, ?_⟩
    have n12 := nB_le bo
    refine ⟨fun m σ H' => ∃ n E F ke kf fd ed v3 v4 v5 v6, σ = [some (.ref a), some (.ref fd), some (.ref ed), v3, v4, v5, v6] ∧ Same H H' ∧ H fd = none ∧ fd ≠ ed ∧ DicL H' fd kf F ∧ DicL H' ed ke E ∧
        (∀ S, S ∈ E ↔ ComesIn B n S) ∧ (∀ S, S ∈ F ↔ ∃ j, j ≤ n ∧ ComesIn B j S) ∧ m + n = nB B + 1,
      ⟨nB B + 1, 0, [[]], [[]], _, _, fd, ed, none, none, none, none, rfl, u2.trans w2, hfd, fded, f2.move (fun _ e => w2 _ _ e), e2, fun S => by rw [comesIn_zero, List.mem_singleton], fun S => ?_, rfl⟩, ?_⟩
    · rw [List.mem_singleton]
      constructor
      · intro e
        exact ⟨0, Nat.le_refl _, comesIn_zero.mpr e⟩
      · rintro ⟨j, hj, hc⟩
        have : j = 0 := by omega
        subst this
        exact comesIn_zero.mp hc
    clear f2 e2 w2 w1 w0 u2 u1 u0 fded hq0 hq1 hed hfd
    rintro m σ H4 ⟨n, E, F, ke, kf, fd, ed, v3, v4, v5, v6, rfl, s4, fdH, fded, f4, e4, hE, hF, hm⟩
    refine ⟨_, rfl, fun p hp => ⟨ed, p, ke, rfl, rfl, same_new hp _ _ e4.1, upd_same, _, rfl, ?_⟩⟩
    have s5 : Same H4 (L2.upd H4 p (.dT [])) := same_new hp
    generalize L2.upd H4 p (.dT []) = H5 at s5
    have f5 := f4.move (fun _ e => s5 _ _ e)
    have e5 := e4.move (fun _ e => s5 _ _ e)
    have t5 := s4.trans s5
    refine ite2 (fun z => ?_) (fun z => ?_)
    rotate_left
    · have E0 : E = [] := by
        have hz : ke.isEmpty = true := by
          cases h : ke.isEmpty with
          | true => rfl
          | false => rw [h] at z; exact absurd rfl z
        have := e4.len
        rw [List.isEmpty_iff.mp hz] at this
        exact List.length_eq_zero_iff.mp this.symm
      refine ⟨_, rfl, k H5 fd kf F t5 f5 fun S => ?_⟩
      have no : ∀ S, ¬ ComesIn B n S := fun S hS => by
        have := (hE S).mpr hS
        rw [E0] at this
        simp at this
      rw [hF S]
      constructor
      · rintro ⟨j, _, hj⟩
        exact hj.comes
      · intro hc
        refine ⟨S.length, ?_, hc.in⟩
        refine Classical.byContradiction fun q => ?_
        exact none_later no S.length S (by omega) hc.in
    have Ene : E ≠ [] := by
      intro E0
      have hz : ke = [] := by
        have := e4.len
        rw [E0] at this
        exact List.length_eq_zero_iff.mp this
      rw [hz] at z
      exact Bool.noConfusion z
    obtain ⟨S0, hS0⟩ := List.exists_mem_of_ne_nil _ Ene
    have hn := ((hE S0).mp hS0).bound
    refine ⟨fun σ' H' => ∃ n E F ke kf fd ed v3 v4 v5 v6, σ' = [some (.ref a), some (.ref fd), some (.ref ed), v3, v4, v5, v6] ∧ Same H H' ∧ H fd = none ∧ fd ≠ ed ∧ DicL H' fd kf F ∧ DicL H' ed ke E ∧
        (∀ S, S ∈ E ↔ ComesIn B n S) ∧ (∀ S, S ∈ F ↔ ∃ j, j ≤ n ∧ ComesIn B j S) ∧ (m - 1) + n = nB B + 1, fun σ' H' z => ⟨m - 1, by omega, z⟩, ?_⟩
    intro ld hld
    have s6 : Same H5 (L2.upd H5 ld (.dT [])) := same_new hld
    have l6 : DicL (L2.upd H5 ld (.dT [])) ld [] [] := ⟨upd_same, rfl, .nil, fun p hp => by simp at hp⟩
    generalize L2.upd H5 ld (.dT []) = H6 at s6 l6
    have ldH : H ld = none := t5.free hld
    have e6 := e5.move (fun _ e => s6 _ _ e)
    have f6 := f5.move (fun _ e => s6 _ _ e)
    have fdld : fd ≠ ld := ne_of_none f5.1 hld
    have edld : ed ≠ ld := ne_of_none e5.1 hld
    have t6 := t5.trans s6
    have hcom : ∀ S T l, T ∈ E → l ∈ readyL B T → S = insL l T → ComesIn B (n + 1) S := fun S T l h1 h2 h3 => comesIn_succ.mpr ⟨T, l, (hE T).mp h1, h2, h3⟩
    clear hld hp s5 e5 f5
    refine ⟨_, rfl, ed, ke, rfl, .inl e6.1, fun p7 bs hp7 hbs => ⟨p7, rfl, ⟨_, SqL.of upd_same⟩, ?_⟩⟩
    obtain ⟨bl, bk⟩ := e6.keys hbs
    have s7 : Same H6 (L2.upd H6 p7 (.lst (bs.map V.ref))) := same_new hp7
    have p7e : L2.upd H6 p7 (.lst (bs.map V.ref)) p7 = some (.lst (bs.map V.ref)) := upd_same
    generalize L2.upd H6 p7 (.lst (bs.map V.ref)) = H7 at s7 p7e
    have ldp7 : ld ≠ p7 := ne_of_none l6.1 hp7
    have l7 := l6.move (fun _ e => s7 _ _ e)
    have e7 := e6.move (fun _ e => s7 _ _ e)
    have f7 := f6.move (fun _ e => s7 _ _ e)
    have t7 := t6.trans s7
    refine for_it (walk_list (xs := bs.map V.ref)) (fun i σ H' => ∃ kl M v4 v5 v6, σ = [some (.ref a), some (.ref fd), some (.ref ed), some (.ref ld), v4, v5, v6] ∧ SB ld H7 H' ∧ DicL H' ld kl M ∧ ∀ S, S ∈ M ↔ ∃ T l, T ∈ E.take i ∧ l ∈ readyL B T ∧ S = insL l T)
      ⟨[], [], v4, v5, v6, rfl, SB.refl ld H7, l7, fun S => by simp⟩ (fun i σ H' _ ⟨_, _, _, _, _, _, s, _⟩ => SqL.of (s _ _ ldp7.symm p7e)) ?_ ?_
    · rintro i v σ H8 H8' hi ⟨kl, M, v4, v5, v6, rfl, s8, l8, hM⟩ ⟨rfl, hv⟩
      rw [List.length_map] at hi
      have eT : E[i]? = some (E[i]'(by omega)) := List.getElem?_eq_getElem (by omega)
      generalize (E[i]'(by omega)) = U at eT
      obtain ⟨b, hb1, hb2⟩ := bk i U eT
      obtain rfl : v = .ref b := by
        rw [List.getElem?_map, hb1] at hv
        exact (Option.some.inj hv).symm
      have hUE : U ∈ E := List.mem_of_getElem? eT
      have hU : ComesIn B n U := (hE U).mp hUE
      obtain ⟨us, hus⟩ := hU.comes
      have hlen := lotLen bo hus.rising hus.lt
      have bld : b ≠ ld := ne_of hb2 l6.1 (fun z => nomatch z)
      have b8 := s8 _ _ bld (s7 _ _ hb2)
      have e8 := e7.move (fun _ e => s8 _ _ edld e)
      have bd8 := (hb.same t7).tups (SB.tupsD l7.1 s8)
      refine ⟨_, rfl, _, rfl, a, b, B, U, rfl, bd8, bo, b8, hus.lft bo, fun H9 p9 s9 n9 e9 => ⟨p9, rfl, ⟨_, SqL.of e9⟩, ?_⟩⟩
      have ldp9 : ld ≠ p9 := ne_of_none l8.1 n9
      refine for_it (walk_listM (L := readyL B U) (F := nV)) (fun j σ H' => ∃ kl M' v5 v6, σ = [some (.ref a), some (.ref fd), some (.ref ed), some (.ref ld), some (.ref b), v5, v6] ∧ SB ld H9 H' ∧ DicL H' ld kl M' ∧ ∀ S, S ∈ M' ↔ S ∈ M ∨ ∃ l, l ∈ (readyL B U).take j ∧ S = insL l U)
        ⟨kl, M, v5, v6, rfl, SB.refl ld H9, l8.move (fun _ e => s9 _ _ e), fun S => by simp⟩ (fun _ _ H' _ ⟨_, _, _, _, _, s, _⟩ => SqL.of (s _ _ ldp9.symm e9)) ?_ ?_
      · rintro j v σ H10 H10' hj ⟨kl', M', v5, v6, rfl, s10, l10, hM'⟩ ⟨rfl, hv⟩
        have ex : (readyL B U)[j]? = some (readyL B U)[j] := List.getElem?_eq_getElem hj
        generalize (readyL B U)[j] = l at ex
        obtain rfl : v = nV l := by
          rw [List.getElem?_map, ex] at hv
          exact (Option.some.inj hv).symm
        have hl := List.mem_of_getElem? ex
        obtain ⟨⟨x1, x2⟩, x3⟩ := mem_readyL.mp hl
        have b10 := s10 _ _ bld (s9 _ _ b8)
        have d10 := (e8.move (fun _ e => s9 _ _ e)).move (fun _ e => s10 _ _ edld e)
        refine ⟨_, rfl, _, rfl, b, U, l, rfl, b10, hus.rising, x2, by omega, fun H11 p11 s11 n11 e11 => ?_⟩
        have l11 := l10.move (fun _ e => s11 _ _ e)
        have d11 := d10.move (fun _ e => s11 _ _ e)
        have b11 := s11 _ _ b10
        obtain ⟨g1, hg1⟩ := l11.get (insL l U)
        obtain ⟨g2, hg2⟩ := d11.val hUE
        have dg2 : DGet H11 ed (.ref b) (some (.int g2)) := by
          rw [← hg2]
          exact DGet.t d11.1 (tup_key b11)
        have small : kl'.length < sizeLine := by
          rw [l11.len]
          refine many_small bo l11.2.2.1 fun S hS => ?_
          rcases (hM' S).mp hS with h | ⟨l2, h1, h2⟩
          · obtain ⟨T, l2, h1, h2, h3⟩ := (hM S).mp h
            exact (hcom S T l2 (List.mem_of_mem_take h1) h2 h3).comes
          · exact (hcom S U l2 hUE (List.mem_of_mem_take h1) h2).comes
        refine ⟨_, rfl, ld, rfl, .inr ⟨_, .inl l11.1⟩, _, rfl, _, DGet.t l11.1 (tup_key e11), ?_⟩
        refine ⟨_, rfl, _, rfl, ed, _, rfl, dg2, ?_⟩
        refine ⟨g1, g2, hg1, rfl, ?_⟩
        refine ⟨_, rfl, _, rfl, ld, _, rfl, DPut.t l11.1 (tup_key e11) small, ?_⟩
        refine ⟨_, _, _, _, rfl, (s10.trans (SB.of s11)).trans (SB.upd ld H11 _), l11.put (insL l U) (g1 + g2), fun S => ?_⟩
        rw [mem_addL, hM', List.take_add_one, ex]
        constructor
        · rintro ((h | ⟨l2, h1, h2⟩) | rfl)
          · exact .inl h
          · exact .inr ⟨l2, List.mem_append.mpr (.inl h1), h2⟩
          · exact .inr ⟨l, List.mem_append.mpr (.inr (List.mem_singleton.mpr rfl)), rfl⟩
        · rintro (h | ⟨l2, h1, h2⟩)
          · exact .inl (.inl h)
          · rcases List.mem_append.mp h1 with h1 | h1
            · exact .inl (.inr ⟨l2, h1, h2⟩)
            · rw [List.mem_singleton.mp h1] at h2
              exact .inr h2
      · rintro σ H10 ⟨kl', M', v5, v6, rfl, s10, l10, hM'⟩
        rw [List.take_length] at hM'
        refine ⟨kl', M', _, _, _, rfl, (s8.trans (SB.of s9)).trans s10, l10, fun S => ?_⟩
        rw [hM', List.take_add_one, eT]
        constructor
        · rintro (h | ⟨l, h1, h2⟩)
          · obtain ⟨T, l, h1, h2, h3⟩ := (hM S).mp h
            exact ⟨T, l, List.mem_append.mpr (.inl h1), h2, h3⟩
          · exact ⟨U, l, List.mem_append.mpr (.inr (List.mem_singleton.mpr rfl)), h1, h2⟩
        · rintro ⟨T, l, h1, h2, h3⟩
          rcases List.mem_append.mp h1 with h1 | h1
          · exact .inl ((hM S).mpr ⟨T, l, h1, h2, h3⟩)
          · rw [List.mem_singleton.mp h1] at h2 h3
            exact .inr ⟨l, h2, h3⟩
    · rintro σ H8 ⟨kl, M, v4, v5, v6, rfl, s8, l8, hM⟩
      have hM1 : ∀ S, S ∈ M ↔ ComesIn B (n + 1) S := fun S => by
        rw [hM S, List.length_map, bl, List.take_length]
        constructor
        · rintro ⟨T, l, h1, h2, h3⟩
          exact hcom S T l h1 h2 h3
        · intro h
          obtain ⟨T, l, h1, h2, h3⟩ := comesIn_succ.mp h
          exact ⟨T, l, (hE T).mpr h1, h2, h3⟩
      clear hM
      have f8 := f7.move (fun _ e => s8 _ _ fdld e)
      have t8 := same_sb t7 s8 ldH
      refine ⟨_, rfl, ld, kl, rfl, .inl l8.1, fun p9 cs hp9 hcs => ⟨p9, rfl, ⟨_, SqL.of upd_same⟩, ?_⟩⟩
      obtain ⟨cl, ck⟩ := l8.keys hcs
      have s9 : Same H8 (L2.upd H8 p9 (.lst (cs.map V.ref))) := same_new hp9
      have p9e : L2.upd H8 p9 (.lst (cs.map V.ref)) p9 = some (.lst (cs.map V.ref)) := upd_same
      generalize L2.upd H8 p9 (.lst (cs.map V.ref)) = H9 at s9 p9e
      have fdp9 : fd ≠ p9 := ne_of_none f8.1 hp9
      have l9 := l8.move (fun _ e => s9 _ _ e)
      have f9 := f8.move (fun _ e => s9 _ _ e)
      have t9 := t8.trans s9
      refine for_it (walk_list (xs := cs.map V.ref)) (fun i σ H' => ∃ kf F' v4, σ = [some (.ref a), some (.ref fd), some (.ref ed), some (.ref ld), v4, v5, v6] ∧ SB fd H9 H' ∧ DicL H' fd kf F' ∧ ∀ S, S ∈ F' ↔ S ∈ F ∨ S ∈ M.take i)
        ⟨kf, F, v4, rfl, SB.refl fd H9, f9, fun S => by simp⟩ (fun i σ H' _ ⟨_, _, _, _, s, _⟩ => SqL.of (s _ _ fdp9.symm p9e)) ?_ ?_
      · rintro i v σ H10 H10' hi ⟨kf', F', v4, rfl, s10, f10, hF'⟩ ⟨rfl, hv⟩
        rw [List.length_map] at hi
        have eT : M[i]? = some (M[i]'(by omega)) := List.getElem?_eq_getElem (by omega)
        generalize (M[i]'(by omega)) = U at eT
        obtain ⟨b, hb1, hb2⟩ := ck i U eT
        obtain rfl : v = .ref b := by
          rw [List.getElem?_map, hb1] at hv
          exact (Option.some.inj hv).symm
        have hUM : U ∈ M := List.mem_of_getElem? eT
        have bfd : b ≠ fd := ne_of hb2 f8.1 (fun z => nomatch z)
        have b10 := s10 _ _ bfd (s9 _ _ hb2)
        have l10 := l9.move (fun _ e => s10 _ _ fdld.symm e)
        obtain ⟨g, hg⟩ := l10.val hUM
        have dg : DGet H10' ld (.ref b) (some (.int g)) := by
          rw [← hg]
          exact DGet.t l10.1 (tup_key b10)
        have small : kf'.length < sizeLine := by
          rw [f10.len]
          refine many_small bo f10.2.2.1 fun S hS => ?_
          rcases (hF' S).mp hS with h | h
          · obtain ⟨j, _, hj⟩ := (hF S).mp h
            exact hj.comes
          · exact ((hM1 S).mp (List.mem_of_mem_take h)).comes
        refine ⟨_, rfl, _, rfl, ld, _, rfl, dg, _, rfl, _, rfl, fd, _, rfl, DPut.t f10.1 (tup_key b10) small, ?_⟩
        refine ⟨_, _, _, rfl, s10.trans (SB.upd fd _ _), f10.put U g, fun S => ?_⟩
        rw [mem_addL, hF', List.take_add_one, eT, List.mem_append]
        show _ ↔ S ∈ F ∨ S ∈ M.take i ∨ S ∈ [U]
        rw [List.mem_singleton, or_assoc]
      · rintro σ H10 ⟨kf', F', v4, rfl, s10, f10, hF'⟩
        refine ⟨_, rfl, n + 1, M, F', kl, kf', fd, ld, _, _, _, _, rfl, same_sb t9 s10 fdH, fdH, fdld, f10, l9.move (fun _ e => s10 _ _ fdld.symm e), hM1, fun S => ?_, by omega⟩
        rw [hF' S, List.length_map, cl, List.take_length, hF S, hM1 S]
        constructor
        · rintro (⟨j, h1, h2⟩ | h)
          · exact ⟨j, by omega, h2⟩
          · exact ⟨n + 1, Nat.le_refl _, h⟩
        · rintro ⟨j, h1, h2⟩
          by_cases q : j ≤ n
          · exact .inl ⟨j, q, h2⟩
          · have : j = n + 1 := by omega
            subst this
            exact .inr h2
end
end K1
namespace K1
open PySem PySem.Spec PyProof.Rows L2
/-! ### the greatest of (len(lot), lot) -/
def qD (S : List Nat) : PyData := .tuple [.int (S.length : Int), .tuple (dI S)]
theorem alike_dI : ∀ S T : List Nat, PySem.W.alikeAll (dI S) (dI T) = true
  | [], _ => by simp [dI, PySem.W.alikeAll]
  | _ :: _, [] => by simp [dI, PySem.W.alikeAll]
  | x :: S, y :: T => by
    have ih := alike_dI S T
    simp only [dI, List.map_cons, PySem.W.alikeAll, PySem.W.alike, Bool.true_and] at ih ⊢
    exact ih
theorem alike_qD (S T : List Nat) : PySem.W.alike (qD S) (qD T) = true := by
  simp [qD, PySem.W.alike, PySem.W.alikeAll, alike_dI]
theorem lt_qD (S T : List Nat) (h : S.length ≠ T.length) : PySem.W.dataLt (qD S) (qD T) = decide (S.length < T.length) := by
  unfold qD
  have e : PyData.eqv (.int (S.length : Int)) (.int (T.length : Int)) = false := by
    rw [PyData.eqv]
    simp
    omega
  rw [PySem.W.dataLt_tuple, PySem.W.dataLt_all_no (by simp [PySem.W.alike]) e, PySem.W.dataLt_int]
  exact decide_eq_decide.mpr (by omega)
theorem getD_qD {L : List (List Nat)} {j : Nat} (h : j < L.length) : (L.map qD).getD j .none = qD (L.getD j []) := by
  rw [List.getD_eq_getElem?_getD, List.getD_eq_getElem?_getD, List.getElem?_map, List.getElem?_eq_getElem h]
  rfl
theorem best_len (L : List (List Nat)) : ∀ k, k < L.length → argBest (fun i j => PySem.W.dataLt ((L.map qD).getD j .none) ((L.map qD).getD i .none)) k ≤ k ∧
    ∀ j, j ≤ k → (L.getD j []).length ≤ (L.getD (argBest (fun i j => PySem.W.dataLt ((L.map qD).getD j .none) ((L.map qD).getD i .none)) k) []).length := by
  intro k
  induction k with
  | zero => exact fun _ => ⟨Nat.le_refl _, fun j hj => by rw [Nat.le_zero.mp hj]; exact Nat.le_refl _⟩
  | succ k ih =>
    intro hk
    obtain ⟨h1, h2⟩ := ih (by omega)
    rw [argBest]
    generalize argBest (fun i j => PySem.W.dataLt ((L.map qD).getD j .none) ((L.map qD).getD i .none)) k = b at h1 h2
    rw [getD_qD (show b < L.length by omega), getD_qD hk]
    have h3 := h2
    by_cases q : (L.getD b []).length = (L.getD (k + 1) []).length
    · split
      · refine ⟨Nat.le_refl _, fun j hj => ?_⟩
        by_cases e : j = k + 1
        · rw [e]; exact Nat.le_refl _
        · rw [← q]; exact h2 j (by omega)
      · refine ⟨by omega, fun j hj => ?_⟩
        by_cases e : j = k + 1
        · rw [e, q]; exact Nat.le_refl _
        · exact h2 j (by omega)
    · rw [lt_qD _ _ q]
      split
      · rename_i z
        have z := of_decide_eq_true z
        refine ⟨Nat.le_refl _, fun j hj => ?_⟩
        by_cases e : j = k + 1
        · rw [e]; exact Nat.le_refl _
        · have := h2 j (by omega); omega
      · rename_i z
        have z : ¬ (L.getD b []).length < (L.getD (k + 1) []).length := fun y => z (decide_eq_true y)
        refine ⟨by omega, fun j hj => ?_⟩
        by_cases e : j = k + 1
        · rw [e]; omega
        · exact h2 j (by omega)
theorem depth_qD : ∀ L : List (List Nat), PyData.depthAll (L.map qD) ≤ 16
  | [] => by simp [PyData.depthAll]
  | S :: L => by
    have ih := depth_qD L
    rw [List.map_cons, PyData.depthAll]
    have : (qD S).depth ≤ 16 := by
      unfold qD
      simp [PyData.depth, PyData.depthAll, depth_dI]
    omega
/-- a lot in the heap, by its place and its lines -/
abbrev PL : Type := Addr × List Nat
def PLs (H : Hp) (L : List PL) : Prop := ∀ q ∈ L, H q.1 = some (.tup (q.2.map nV))
theorem PLs.tups {H H' : Hp} {L : List PL} (h : PLs H L) (t : Tups H H') : PLs H' L := fun q hq => t _ _ (h q hq)
theorem DicL.pls {H : Hp} {d : Addr} {kvs : List (List Key × V)} {L : List (List Nat)} (h : DicL H d kvs L) {bs : List Addr} (hb : IsKeys H kvs bs) : ∃ Z : List PL, bs = Z.map (·.1) ∧ L = Z.map (·.2) ∧ PLs H Z := by
  obtain ⟨h1, h2⟩ := h.keys hb
  refine ⟨bs.zip L, ?_, ?_, ?_⟩
  · rw [List.map_fst_zip (by omega)]
  · rw [List.map_snd_zip (by omega)]
  · intro q hq
    obtain ⟨i, hi, e⟩ := List.getElem_of_mem hq
    rw [List.length_zip] at hi
    rw [List.getElem_zip] at e
    obtain ⟨b, hb1, hb2⟩ := h2 i _ (List.getElem?_eq_getElem (show i < L.length by omega))
    have : bs[i] = b := by
      rw [List.getElem?_eq_getElem (show i < bs.length by omega)] at hb1
      exact Option.some.inj hb1
    rw [← e]
    show H bs[i] = _
    rw [this, hb2]
/-- (len(lot), lot) -/
def Two (H : Hp) (q : PL) (y : V) : Prop := ∃ t, y = .ref t ∧ H t = some (.tup [nV q.2.length, .ref q.1]) ∧ H q.1 = some (.tup (q.2.map nV))
theorem Two.tups {H H' : Hp} {q : PL} {y : V} (t : Tups H H') (h : Two H q y) : Two H' q y := by
  obtain ⟨a, e, h1, h2⟩ := h
  exact ⟨a, e, t _ _ h1, t _ _ h2⟩
theorem two_dp {K : PySem.W.Frag} {H : Hp} : ∀ {Z : List PL} {ys : List V}, Paired (Two H) Z ys → DpAll K H ys ((Z.map (·.2)).map qD)
  | _, _, .nil => .nil
  | _, _, .cons r t => by
    obtain ⟨a, rfl, h1, h2⟩ := r
    exact .cons (.tup (SqT.of h1) (.cons (.int _) (.cons (.tup (SqT.of h2) (dpAll_nV _)) .nil))) (two_dp t)
theorem row_new {K : PySem.W.Frag} {H : Hp} {a p : Addr} {ns : List Int} {j : Int} (h : SqL K H a (ns.map V.int)) (n : H p = none) : RowOk K (upd H p (.lst [.ref a, .int 0, .int j, .int 0])) p := by
  refine ⟨a, ns, 0, j, 0, by decide, upd_same, fun H' t => ?_⟩
  rcases h with (h | ⟨o, h⟩) | h
  · exact .inl (.inl (t _ _ (ne_of_none h n) (same_new n _ _ h)))
  · exact .inl (.inr ⟨o, t _ _ (ne_of_none h n) (same_new n _ _ h)⟩)
  · exact .inr h
end K1
namespace K1
open PySem PySem.Spec PyProof.Rows L2
section
variable {P : Program} {w : World} {K : PySem.W.Frag} {mg : Str → Option Value} {base : Heap}
def insideB (W : List Nat) (q : PL) : Bool := decide ((q.2.filter fun x => decide (x ∉ W)) = [])
theorem insideB_iff {W : List Nat} {q : PL} : insideB W q = true ↔ ∀ x ∈ q.2, x ∈ W := by
  unfold insideB
  rw [decide_eq_true_iff, List.filter_eq_nil_iff]
  constructor
  · intro h x hx
    refine Classical.byContradiction fun z => h x hx (decide_eq_true z)
  · intro h x hx z
    exact of_decide_eq_true z (h x hx)
theorem top_clo {B : Board} {W : List Nat} {Y : List PL} (Yin : ∀ q ∈ Y, Comes B q.2 ∧ ∀ x ∈ q.2, x ∈ W) (Yof : ∀ S, Comes B S → (∀ x ∈ S, x ∈ W) → ∃ q ∈ Y, q.2 = S) (lt : ∀ x ∈ W, x < nB B)
    {q : PL} (hq : q ∈ Y) (mx : ∀ q' ∈ Y, q'.2.length ≤ q.2.length) : ∃ s, Clo B W s q.2 := by
  obtain ⟨⟨s, hs⟩, sub⟩ := Yin q hq
  refine ⟨s, hs, sub, fun l hl hn hc => ?_⟩
  obtain ⟨q', h1, h2⟩ := Yof (insL l q.2) ⟨_, hs.snoc (lt l hl) hn hc⟩ fun x hx => by
    rcases mem_insL.mp hx with rfl | hx
    · exact hl
    · exact sub x hx
  have := mx q' h1
  rw [h2, insL_len] at this
  omega
def F2 (q : PL) : V := .ref q.1
def sp_law (K : PySem.W.Frag) : Sp := fun vs H Q _ => ∃ a ns, vs = [.ref a] ∧ SqL K H a ((ns : List Int).map V.int) ∧ ns.length ≤ 63 ∧ ∀ H', Q (.bl true) H'
theorem ok_law {f : Addr} {fd : FuncData} (T : Txt K mg) (d : Dn K mg "law" s_law ["_law_script"] f fd) : FnOk P w K mg base CX0 10 f fd ["_law_script"] (sp_law K) := by
  obtain ⟨f__law_board, fd__law_board, d__law_board⟩ := T.h__law_board
  have g__law_board : FnOk P w K mg base CX0 2 f__law_board fd__law_board ["_law_row", "_law_rows_here", "_law_columns_here", "_law_many"] (sp__law_board K) := ok__law_board T d__law_board
  obtain ⟨f__law_all, fd__law_all, d__law_all⟩ := T.h__law_all
  have g__law_all : FnOk P w K mg base CX0 5 f__law_all fd__law_all ["_law_board_here"] (sp__law_all K) := ok__law_all T d__law_all
  obtain ⟨f__law_lot, fd__law_lot, d__law_lot⟩ := T.h__law_lot
  have g__law_lot : FnOk P w K mg base CX0 6 f__law_lot fd__law_lot ["_law_row", "_law_board_here"] (sp__law_lot K) := ok__law_lot T d__law_lot
  obtain ⟨f__law_is, fd__law_is, d__law_is⟩ := T.h__law_is
  have g__law_is : FnOk P w K mg base CX0 1 f__law_is fd__law_is ["_law_found", "_law_due"] (sp__law_is K) := ok__law_is T d__law_is
  obtain ⟨f_comes, fd_comes, d_comes⟩ := T.h_comes
  have g_comes : FnOk P w K mg base CX0 9 f_comes fd_comes ["board", "lot"] (sp_comes K) := ok_comes T d_comes
  obtain ⟨f__law_alike, fd__law_alike, d__law_alike⟩ := T.h__law_alike
  have g__law_alike : FnOk P w K mg base CX0 3 f__law_alike fd__law_alike ["_law_found", "_law_due"] (sp__law_alike3 K) := ok__law_alike3 T d__law_alike
  obtain ⟨f_stuck, fd_stuck, d_stuck⟩ := T.h_stuck
  have g_stuck : FnOk P w K mg base CX0 8 f_stuck fd_stuck ["board", "lot"] (sp_stuck K) := ok_stuck T d_stuck
  obtain ⟨f_greatest_within, fd_greatest_within, d_greatest_within⟩ := T.h_greatest_within
  have g_greatest_within : FnOk P w K mg base CX0 8 f_greatest_within fd_greatest_within ["board", "lot"] (sp_greatest_within K) := ok_greatest_within T d_greatest_within
  obtain ⟨f_some_strikes, fd_some_strikes, d_some_strikes⟩ := T.h_some_strikes
  have g_some_strikes : FnOk P w K mg base CX0 8 f_some_strikes fd_some_strikes ["board", "lot"] (sp_some_strikes K) := ok_some_strikes T d_some_strikes
  obtain ⟨f_shows_strikes, fd_shows_strikes, d_shows_strikes⟩ := T.h_shows_strikes
  have g_shows_strikes : FnOk P w K mg base CX0 8 f_shows_strikes fd_shows_strikes ["board", "lot", "value"] (sp_shows_strikes K) := ok_shows_strikes T d_shows_strikes
  obtain ⟨f_play, fd_play, d_play⟩ := T.h_play
  have g_play : FnOk P w K mg base CX0 9 f_play fd_play ["board", "strikes"] (sp_play K) := ok_play T d_play
  obtain ⟨f__law_drawn, fd__law_drawn, d__law_drawn⟩ := T.h__law_drawn
  have g__law_drawn : FnOk P w K mg base CX0 5 f__law_drawn fd__law_drawn ["_law_row", "_law_board_here", "_law_many"] (sp__law_drawn K) := ok__law_drawn T d__law_drawn
  obtain ⟨f__law_taken, fd__law_taken, d__law_taken⟩ := T.h__law_taken
  have g__law_taken : FnOk P w K mg base CX0 1 f__law_taken fd__law_taken ["_law_row", "_law_many"] (sp__law_taken K) := ok__law_taken T d__law_taken
  obtain ⟨f__law_pick, fd__law_pick, d__law_pick⟩ := T.h__law_pick
  have g__law_pick : FnOk P w K mg base CX0 2 f__law_pick fd__law_pick ["_law_row", "_law_things"] (sp__law_pick K) := ok__law_pick T d__law_pick
  refine d.F.ok sc_law (fun vs H Q E h => ?_) (fun cdv A outer s H vs Q E hr h => ?_)
  · obtain ⟨a, ns, rfl, hsc, _, k⟩ := h
    rfl
  · obtain ⟨a, ns, rfl, hsc, _, k⟩ := h
    have nd := sc_law.nd
    have hu := hu_of hr
    refine ⟨_, (pss_cons (ps_set (i := 1) nd rfl (Or.inl rfl) (pe_lst (pa_cons (pv 0) (pa_cons pe_int (pa_cons pe_int (pa_cons pe_int pa_nil))))))
      (pss_cons (ps_set (i := 2) nd rfl (Or.inl rfl) (pe_call g__law_board (hr.mono (by decide)) (by rfl) d__law_board.g d__law_board.F.kp d__law_board.b .nil pass0 (pa_cons (pv 1) (pa_cons pe_int (pa_cons pe_int (pa_cons pe_int pa_nil))))))
      (pss_cons (ps_asg (pe_tup (pa_cons (pe_call g__law_lot (hr.mono (by decide)) (by rfl) d__law_lot.g d__law_lot.F.kp d__law_lot.b .nil pass0 (pa_cons (pv 1) (pa_cons (pv 2) pa_nil))) (pa_cons (pe_call g__law_all (hr.mono (by decide)) (by rfl) d__law_all.g d__law_all.F.kp d__law_all.b .nil pass0 (pa_cons (pv 2) pa_nil)) pa_nil))) (k_tup (K := K) (n := 2) rfl (pgs_cons (pg_name (i := 3) nd rfl (Or.inr rfl)) (pgs_cons (pg_name (i := 4) nd rfl (Or.inl rfl)) pgs_nil))))
      (pss_cons (ps_if (pt_not (pt_val (pe_call g__law_is (hr.mono (by decide)) (by rfl) d__law_is.g d__law_is.F.kp d__law_is.b .nil pass0 (pa_cons (pe_call g_comes (hr.mono (by decide)) (by rfl) d_comes.g d_comes.F.kp d_comes.b .nil pass0 (pa_cons (pv 2) (pa_cons (pv 3) pa_nil))) (pa_cons (pe_cmp (pc_din hu (pv 3) (pv 4))) pa_nil)))))
        (pss_one (ps_ret pe_bl))
        pss_nil)
      (pss_cons (ps_setLc (i := 5) (own := [("_law_one", 12)]) rfl nd rfl rfl (sw_true rfl rfl rfl (by decide +kernel)) (k_piL (K := K) (pe_callTy (T := "list") (call_list_dT rfl) (by rfl) T.blist (by decide +kernel) (pa_cons (pv 4) pa_nil))) (blkOk_by (N := ["_law_script", "_law_row", "_law_board_here", "_law_lot_here", "_law_known", "_law_inner", "_law_top", "_law_rest", "_law_strikes", "_law_drawn_here", "_law_last", "_law_odd", "_law_one", "_law_line"]) (sc := defScope s_law) (by decide +kernel)) (fun _ _ _ _ _ => pg_name (i := 12) nd rfl (Or.inl rfl)) (fun _ _ _ _ _ => pts_one (pt_cmpR (k_eqD (K := K) hr.units) (pe_lc (own := [("_law_line", 13)]) rfl nd (k_piT (K := K) (pv 12)) (by (refine blkOk_by ?_; show blkC ["_law_script", "_law_row", "_law_board_here", "_law_lot_here", "_law_known", "_law_inner", "_law_top", "_law_rest", "_law_strikes", "_law_drawn_here", "_law_last", "_law_odd", "_law_one", "_law_line"] (relS _ (defScope s_law)) _ _ = true; decide +kernel)) (fun _ _ _ _ _ => pg_name (i := 13) nd rfl (Or.inl rfl)) (fun _ _ _ _ _ => pts_one (pt_cmpR (k_notIn (K := K)) (pv 13) (pv 3) (by rfl))) (fun _ _ _ _ _ => (pv 13))) (pe_lst pa_nil) (by rfl))) (fun _ _ _ _ _ => (pv 12)))
      (pss_cons (ps_set (i := 6) nd rfl (Or.inr rfl) (pe_ix (k_ixT (K := K)) (pe_callB (id := "max") (kc_maxD (K := K) rfl hr.units) (by rfl) T.bmax (by decide +kernel) (pa_cons (pe_lc (own := [("_law_one", 12)]) rfl nd (k_piL (K := K) (pv 5)) (blkOk_by (N := ["_law_script", "_law_row", "_law_board_here", "_law_lot_here", "_law_known", "_law_inner", "_law_top", "_law_rest", "_law_strikes", "_law_drawn_here", "_law_last", "_law_odd", "_law_one", "_law_line"]) (sc := defScope s_law) (by decide +kernel)) (fun _ _ _ _ _ => pg_name (i := 12) nd rfl (Or.inl rfl)) (fun _ _ _ _ _ => pts_nil) (fun _ _ _ _ _ => (pe_tup (pa_cons (pe_callB (id := "len") (kc_len (K := K)) (by rfl) T.blen (by decide +kernel) (pa_cons (pv 12) pa_nil)) (pa_cons (pv 12) pa_nil))))) pa_nil)) pe_int (fun _ _ => rfl)))
      (pss_cons (ps_if (pt_cmpR (k_neD (K := K) hr.units) (pe_lc (own := [("_law_one", 12)]) rfl nd (k_piL (K := K) (pv 5)) (blkOk_by (N := ["_law_script", "_law_row", "_law_board_here", "_law_lot_here", "_law_known", "_law_inner", "_law_top", "_law_rest", "_law_strikes", "_law_drawn_here", "_law_last", "_law_odd", "_law_one", "_law_line"]) (sc := defScope s_law) (by decide +kernel)) (fun _ _ _ _ _ => pg_name (i := 12) nd rfl (Or.inl rfl)) (fun _ _ _ _ _ => pts_one (pt_cmpR (k_neD (K := K) hr.units) (pe_lc (own := [("_law_line", 13)]) rfl nd (k_piT (K := K) (pv 12)) (by (refine blkOk_by ?_; show blkC ["_law_script", "_law_row", "_law_board_here", "_law_lot_here", "_law_known", "_law_inner", "_law_top", "_law_rest", "_law_strikes", "_law_drawn_here", "_law_last", "_law_odd", "_law_one", "_law_line"] (relS _ (defScope s_law)) _ _ = true; decide +kernel)) (fun _ _ _ _ _ => pg_name (i := 13) nd rfl (Or.inl rfl)) (fun _ _ _ _ _ => pts_one (pt_cmpR (k_notIn (K := K)) (pv 13) (pv 6) (by rfl))) (fun _ _ _ _ _ => (pv 13))) (pe_lst pa_nil) (by rfl))) (fun _ _ _ _ _ => (pv 12))) (pe_lst pa_nil) (by rfl))
        (pss_one (ps_ret pe_bl))
        pss_nil)
      (pss_cons (ps_set (i := 7) nd rfl (Or.inl rfl) (pe_callTy (T := "tuple") (kc_tuple (K := K)) (by rfl) T.btuple (by decide +kernel) (pa_cons (pe_lc (own := [("_law_line", 13)]) rfl nd (k_piT (K := K) (pv 3)) (blkOk_by (N := ["_law_script", "_law_row", "_law_board_here", "_law_lot_here", "_law_known", "_law_inner", "_law_top", "_law_rest", "_law_strikes", "_law_drawn_here", "_law_last", "_law_odd", "_law_one", "_law_line"]) (sc := defScope s_law) (by decide +kernel)) (fun _ _ _ _ _ => pg_name (i := 13) nd rfl (Or.inl rfl)) (fun _ _ _ _ _ => pts_one (pt_cmpR (k_notIn (K := K)) (pv 13) (pv 6) (by rfl))) (fun _ _ _ _ _ => (pv 13))) pa_nil)))
      (pss_cons (ps_if (pt_not (pt_val (pe_call g__law_alike (hr.mono (by decide)) (by rfl) d__law_alike.g d__law_alike.F.kp d__law_alike.b .nil pass0 (pa_cons (pe_lst (pa_cons (pe_call g_greatest_within (hr.mono (by decide)) (by rfl) d_greatest_within.g d_greatest_within.F.kp d_greatest_within.b .nil pass0 (pa_cons (pv 2) (pa_cons (pv 3) pa_nil))) (pa_cons (pe_call g_stuck (hr.mono (by decide)) (by rfl) d_stuck.g d_stuck.F.kp d_stuck.b .nil pass0 (pa_cons (pv 2) (pa_cons (pv 3) pa_nil))) pa_nil))) (pa_cons (pe_lst (pa_cons (pv 6) (pa_cons (pv 7) pa_nil))) pa_nil)))))
        (pss_one (ps_ret pe_bl))
        pss_nil)
      (pss_cons (ps_set (i := 8) nd rfl (Or.inl rfl) (pe_call g_some_strikes (hr.mono (by decide)) (by rfl) d_some_strikes.g d_some_strikes.F.kp d_some_strikes.b .nil pass0 (pa_cons (pv 2) (pa_cons (pv 3) pa_nil))))
      (pss_cons (ps_if (pt_cmp (pc_dnotin hu (pv 3) (pv 4)))
        (pss_cons (ps_if (pt_not (PW.pt (pw_and (pt_cmpR op_isN (pv 8) pe_non (by rfl)) (pw_and1 (pt_cmpR op_isBl (pe_call g_shows_strikes (hr.mono (by decide)) (by rfl) d_shows_strikes.g d_shows_strikes.F.kp d_shows_strikes.b .nil pass0 (pa_cons (pv 2) (pa_cons (pv 3) (pa_cons (pv 3) pa_nil)))) pe_bl (by rfl))))))
          (pss_one (ps_ret pe_bl))
          pss_nil)
        (pss_one (ps_ret (pe_cmpR op_isBl (pe_call g_shows_strikes (hr.mono (by decide)) (by rfl) d_shows_strikes.g d_shows_strikes.F.kp d_shows_strikes.b .nil pass0 (pa_cons (pv 2) (pa_cons (pv 3) (pa_cons pe_non pa_nil)))) pe_bl (by rfl)))))
        pss_nil)
      (pss_cons (ps_if (PW.pt (pw_or (pt_not (pt_val (pe_callB (id := "isinstance") (kc_isi (K := K)) (by rfl) T.bisinstance (by decide +kernel) (pa_cons (pv 8) (pa_cons (pe_bltn (v := .ty "tuple") (by rfl) T.btuple (by decide +kernel) rfl) pa_nil))))) (pw_or1 (pt_cmpR (k_neD (K := K) hr.units) (pe_call g_play (hr.mono (by decide)) (by rfl) d_play.g d_play.F.kp d_play.b .nil pass0 (pa_cons (pv 2) (pa_cons (pv 8) pa_nil))) (pv 3) (by rfl)))))
        (pss_one (ps_ret pe_bl))
        pss_nil)
      (pss_cons (ps_if (pt_cmpR op_notBl (pe_call g_shows_strikes (hr.mono (by decide)) (by rfl) d_shows_strikes.g d_shows_strikes.F.kp d_shows_strikes.b .nil pass0 (pa_cons (pv 2) (pa_cons (pv 3) (pa_cons (pv 8) pa_nil)))) pe_bl (by rfl))
        (pss_one (ps_ret pe_bl))
        pss_nil)
      (pss_cons (ps_asg (pe_call g__law_drawn (hr.mono (by decide)) (by rfl) d__law_drawn.g d__law_drawn.F.kp d__law_drawn.b .nil pass0 (pa_cons (pv 1) (pa_cons (pv 2) (pa_cons (pe_call g__law_taken (hr.mono (by decide)) (by rfl) d__law_taken.g d__law_taken.F.kp d__law_taken.b .nil pass0 (pa_cons (pv 1) (pa_cons pe_int pa_nil))) pa_nil)))) (k_tup (K := K) (n := 2) rfl (pgs_cons (pg_name (i := 9) nd rfl (Or.inl rfl)) (pgs_cons (pg_name (i := 10) nd rfl (Or.inl rfl)) pgs_nil))))
      (pss_cons (ps_if (pt_not (pt_val (pe_call g__law_is (hr.mono (by decide)) (by rfl) d__law_is.g d__law_is.F.kp d__law_is.b .nil pass0 (pa_cons (pe_call g_shows_strikes (hr.mono (by decide)) (by rfl) d_shows_strikes.g d_shows_strikes.F.kp d_shows_strikes.b .nil pass0 (pa_cons (pv 2) (pa_cons (pv 3) (pa_cons (pv 9) pa_nil)))) (pa_cons (pe_cmpR (k_eqD (K := K) hr.units) (pv 10) (pv 3) (by rfl)) pa_nil)))))
        (pss_one (ps_ret pe_bl))
        pss_nil)
      (pss_cons (ps_if (pt_cmpR op_notBl (pe_call g_shows_strikes (hr.mono (by decide)) (by rfl) d_shows_strikes.g d_shows_strikes.F.kp d_shows_strikes.b .nil pass0 (pa_cons (pv 2) (pa_cons (pv 10) (pa_cons (pv 9) pa_nil)))) pe_bl (by rfl))
        (pss_one (ps_ret pe_bl))
        pss_nil)
      (pss_cons (ps_set (i := 11) nd rfl (Or.inl rfl) (pe_call g__law_pick (hr.mono (by decide)) (by rfl) d__law_pick.g d__law_pick.F.kp d__law_pick.b .nil pass0 (pa_cons (pv 1) (pa_cons (pe_lst (pa_cons pe_non (pa_cons pe_int (pa_cons (pe_op op_cat (pe_callTy (T := "list") (kc_list (K := K)) (by rfl) T.blist (by decide +kernel) (pa_cons (pv 8) pa_nil)) (pe_lst (pa_cons pe_int pa_nil))) (pa_cons (pe_op (k_catA (K := K)) (pv 8) (pe_tup (pa_cons pe_bl pa_nil))) (pa_cons (pe_op (k_catA (K := K)) (pv 8) (pe_tup (pa_cons pe_int pa_nil))) (pa_cons pe_str (pa_cons (pe_op (k_catA (K := K)) (pv 8) (pe_tup (pa_cons (pe_tup (pa_cons pe_int pa_nil)) pa_nil))) pa_nil)))))))) pa_nil))))
      (pss_one (ps_ret (pe_cmpR op_isBl (pe_call g_shows_strikes (hr.mono (by decide)) (by rfl) d_shows_strikes.g d_shows_strikes.F.kp d_shows_strikes.b .nil pass0 (pa_cons (pv 2) (pa_cons (pv 3) (pa_cons (pv 11) pa_nil)))) pe_bl (by rfl))))))))))))))))))))), ?_⟩
    refine ⟨_, rfl, by show 4 ≤ sizeLine; decide, fun r hr0 => ?_⟩
    have ro1 : RowOk K (L2.upd H r (.lst [.ref a, .int 0, .int 5201, .int 0])) r := row_new hsc hr0
    generalize L2.upd H r (.lst [.ref a, .int 0, .int 5201, .int 0]) = H1 at ro1
    -- the board
    refine ⟨_, rfl, r, rfl, ro1, fun H2 p B _ ro2 hb2 bo n8 => ?_⟩
    refine ⟨_, rfl, _, rfl, r, p, B, rfl, ro2, hb2, bo, fun H3 lt W t3 ro3 hlt3 lo => ?_⟩
    have hb3 := hb2.sb ro2 t3
    refine ⟨_, rfl, p, B, rfl, hb3, bo, fun H4 d kvs L s4 dl4 hL => ⟨by show 2 ≤ sizeLine; decide, fun t0 ht0 => ⟨t0, _, rfl, SqT.of upd_same, rfl, _, _, rfl, _, _, rfl, rfl, ?_⟩⟩⟩
    have s5 : Same H4 (L2.upd H4 t0 (.tup [.ref lt, .ref d])) := same_new ht0
    generalize L2.upd H4 t0 (.tup [.ref lt, .ref d]) = H5 at s5
    have hb5 := (hb3.same s4).same s5
    have ro5 := (ro3.same s4).same s5
    have hlt5 := s5 _ _ (s4 _ _ hlt3)
    have dl5 := dl4.move (fun _ e => s5 _ _ e)
    have hWlen := lo.len bo
    have Lnd := dl5.2.2.1
    have Llen : L.length ≤ 256 := many_le (n := 8) Lnd fun S hS => by
      obtain ⟨s, hs⟩ := (hL S).mp hS
      exact ⟨hs.rising, fun x hx => by have := hs.lt x hx; omega⟩
    have Slen : ∀ S ∈ L, S.length ≤ 12 := fun S hS => by
      obtain ⟨s, hs⟩ := (hL S).mp hS
      exact lotLen bo hs.rising hs.lt
    clear s4 s5 ht0 dl4 hlt3 hb3 hb2 ro3 ro2 ro1 t3 hsc
    -- comes
    refine ⟨_, rfl, _, rfl, p, lt, B, W, rfl, hb5, bo, hlt5, lo, fun H6 s6 => ?_⟩
    have hlt6 := s6 _ _ hlt5
    have dl6 := dl5.move (fun _ e => s6 _ _ e)
    refine ⟨_, rfl, _, rfl, d, _, rfl, DGet.t dl6.1 (tup_key hlt6), comB B W, _, rfl, _, rfl, ?_⟩
    have eC : comB B W = (valV kvs (keyOf W)).isSome := by
      rw [dl6.has W, Bool.eq_iff_iff, comB_iff, decide_eq_true_iff, hL W]
    refine iteNS eC ?_
    have hb6 := hb5.same s6
    have ro6 := ro5.same s6
    clear hb5 ro5 hlt5 dl5 s6
    -- inner
    refine ⟨_, rfl, d, kvs, rfl, .inl dl6.1, fun p7 bs hp7 hbs => ⟨p7, rfl, ⟨_, SqL.of upd_same⟩, fun D nD => ?_⟩⟩
    obtain ⟨Z, rfl, rfl, zs6⟩ := dl6.pls hbs
    have s7 : Same H6 (L2.upd H6 p7 (.lst ((Z.map (·.1)).map V.ref))) := same_new hp7
    have e7 : L2.upd H6 p7 (.lst ((Z.map (·.1)).map V.ref)) p7 = some (.lst (Z.map F2)) := by rw [upd_same, List.map_map]; rfl
    generalize L2.upd H6 p7 (.lst ((Z.map (·.1)).map V.ref)) = H7 at s7 e7 nD
    have zs7 := zs6.tups s7.tups
    have hlt7 := s7 _ _ hlt6
    rw [List.length_map] at Llen
    have Zlen : ∀ q ∈ Z, q.2.length ≤ 12 := fun q hq => Slen _ (List.mem_map.mpr ⟨q, hq, rfl⟩)
    refine lcF (L := Z) (F := F2) walk_listM nD (by omega) (insideB W) F2 (fun H2 t => SqL.of (t _ _ e7)) (fun _ => rfl) ?_ ?_ ?_
    · intro q hq H8 R s8 kk
      have hq8 := s8 _ _ (zs7 q hq)
      have hlt8 := s8 _ _ hlt7
      refine ⟨_, rfl, q.1, rfl, ⟨_, SqT.of hq8⟩, fun D2 nD2 => ?_⟩
      refine lcF (L := q.2) (F := nV) walk_tupM nD2 (by have := Zlen q hq; omega) (fun x => decide (x ∉ W)) nV (fun H2 t => SqT.of (t _ _ hq8)) (fun _ => rfl) ?_ ?_ ?_
      · intro x hx H9 R9 s9 kk9
        refine ⟨_, rfl, _, rfl, lt, _, rfl, .inr (SqT.of (s9 _ _ hlt8)), rfl, flat_nVs W, _, rfl, ?_⟩
        rw [inV_nV]
        have e : (!decide (x ∈ W)) = decide (x ∉ W) := by simp
        have : R9 (decide (x ∉ W)) H9 := kk9 H9 (Same.refl _)
        rw [← e] at this
        exact this
      · intro x hx _ H9 R9 s9 kk9
        exact ⟨_, rfl, kk9 H9 (Same.refl _)⟩
      · intro H9 s9 hD2
        refine ⟨Nat.zero_le _, fun e5 he5 => ?_⟩
        have u5 : Same H9 (L2.upd H9 e5 (.lst [])) := same_new he5
        refine ⟨_, _, .lst (SqL.of (u5 _ _ hD2)) (dpAll_nV _), .lst (SqL.of upd_same) (dpAll_nV []), shaped_lst _, shaped_lst [], _, rfl, ?_⟩
        rw [eqv_lst]
        exact kk _ (s9.trans u5)
    · intro q hq _ H8 R s8 kk
      exact ⟨_, rfl, kk H8 (Same.refl _)⟩
    intro H8 s8 hD
    have zs8 := zs7.tups s8.tups
    have hlt8 := s8 _ _ hlt7
    have t8 := s7.trans s8
    have hb8 := hb6.same t8
    have ro8 := ro6.same t8
    have dl8 := dl6.move (fun _ e => t8 _ _ e)
    clear s7 s8 e7 zs6 zs7 hlt7 hlt6 hb6 ro6 dl6 t8 nD hbs hp7
    generalize hY : Z.filter (insideB W) = Y at hD
    have Yin : ∀ q ∈ Y, q ∈ Z ∧ ∀ x ∈ q.2, x ∈ W := fun q hq => by
      rw [← hY] at hq
      obtain ⟨h1, h2⟩ := List.mem_filter.mp hq
      exact ⟨h1, insideB_iff.mp h2⟩
    have Yof : ∀ S, Comes B S → (∀ x ∈ S, x ∈ W) → ∃ q ∈ Y, q.2 = S := fun S hS hW => by
      obtain ⟨q, h1, h2⟩ := List.mem_map.mp ((hL S).mpr hS)
      subst h2
      exact ⟨q, by rw [← hY]; exact List.mem_filter.mpr ⟨h1, insideB_iff.mpr hW⟩, rfl⟩
    have Ylen : Y.length ≤ 256 := by
      rw [← hY]
      exact Nat.le_trans (List.length_filter_le _ _) Llen
    have ys8 : PLs H8 Y := fun q hq => zs8 q (Yin q hq).1
    -- the top
    refine ⟨_, rfl, D, rfl, ⟨_, SqL.of hD⟩, fun D3 nD3 => ?_⟩
    refine lcG (L := Y) (F := F2) walk_listM nD3 (by omega) (fun _ => true) Two (fun _ _ _ _ t h => h.tups t) (fun H2 t => SqL.of (t _ _ hD)) (fun _ => rfl) (fun _ _ H2 R _ kk => kk H2 (Same.refl _)) ?_ ?_
    · intro q hq _ H9 R s9 kk
      have hq9 := s9 _ _ (ys8 q hq)
      refine ⟨_, rfl, q.1, _, rfl, .inr (SqT.of hq9), _, rfl, by show 2 ≤ sizeLine; decide, fun t ht => ?_⟩
      have u : Same H9 (L2.upd H9 t (.tup [.int ((q.2.map nV).length : Int), .ref q.1])) := same_new ht
      refine kk _ _ u ⟨t, rfl, ?_, u _ _ hq9⟩
      rw [upd_same, List.length_map]
      rfl
    intro H9 ys s9 hys hD3
    rw [filter_yes] at hys
    obtain ⟨q0, Y', eY⟩ : ∃ q0 Y', Y = q0 :: Y' := by
      obtain ⟨q, h1, _⟩ := Yof [] ⟨[], .nil⟩ (fun x hx => by simp at hx)
      cases h : Y with
      | nil => rw [h] at h1; simp at h1
      | cons q r => exact ⟨q, r, rfl⟩
    have eYm : (Y.map (·.2)).map qD = qD q0.2 :: (Y'.map (·.2)).map qD := by rw [eY]; rfl
    refine ⟨D3, ys, qD q0.2, (Y'.map (·.2)).map qD, rfl, SqL.of hD3, by rw [← eYm]; exact two_dp hys, ⟨?_, ?_⟩, by rw [← eYm]; exact depth_qD _, fun i x hi hx => ?_⟩
    · intro x hx y hy
      rw [← eYm] at hx hy
      obtain ⟨S, _, rfl⟩ := List.mem_map.mp hx
      obtain ⟨T, _, rfl⟩ := List.mem_map.mp hy
      exact alike_qD S T
    · intro x hx
      rw [← eYm] at hx
      obtain ⟨S, _, rfl⟩ := List.mem_map.mp hx
      exact fun z => nomatch z
    rw [← eYm] at hi
    have eYl : ((Y'.map (·.2)).map qD).length = Y'.length := by rw [List.length_map, List.length_map]
    have eYl2 : Y.length = Y'.length + 1 := by rw [eY]; rfl
    rw [eYl] at hi
    obtain ⟨b1, b2⟩ := best_len (Y.map (·.2)) Y'.length (by rw [List.length_map]; omega)
    rw [← hi] at b1 b2
    have hiY : i < Y.length := by omega
    obtain ⟨y, hy1, t, hy2, hy3, hy4⟩ := paired_get hys i _ (List.getElem?_eq_getElem hiY)
    rw [hx] at hy1
    obtain rfl := Option.some.inj hy1
    subst hy2
    have hqY : Y[i] ∈ Y := List.getElem_mem hiY
    have mx : ∀ q' ∈ Y, q'.2.length ≤ Y[i].2.length := fun q' hq' => by
      obtain ⟨j, hj, rfl⟩ := List.getElem_of_mem hq'
      have := b2 j (by omega)
      rw [List.getD_eq_getElem?_getD, List.getD_eq_getElem?_getD, List.getElem?_map, List.getElem?_map, List.getElem?_eq_getElem hj, List.getElem?_eq_getElem hiY] at this
      exact this
    clear hx b2 hi
    generalize Y[i] = q at hy3 hy4 hqY mx
    obtain ⟨s0, clo⟩ := top_clo (fun q hq => ⟨(hL _).mp (List.mem_map.mpr ⟨q, (Yin q hq).1, rfl⟩), (Yin q hq).2⟩) Yof lo.lt hqY mx
    have allin : ∀ q' ∈ Y, ∀ x ∈ q'.2, x ∈ q.2 := fun q' hq' => by
      obtain ⟨s', hs'⟩ := (hL _).mp (List.mem_map.mpr ⟨q', (Yin q' hq').1, rfl⟩)
      exact greatest bo clo.strk clo.stop hs' (Yin q' hq').2
    refine ⟨t, _, (1 : Nat), .ref q.1, rfl, rfl, SqT.of hy3, atI_nat rfl, ?_⟩
    have hlt9 := s9 _ _ hlt8
    have hb9 := hb8.same s9
    have ro9 := ro8.same s9
    have dl9 := dl8.move (fun _ e => s9 _ _ e)
    have hD9 := s9 _ _ hD
    have ys9 := ys8.tups s9.tups
    clear s9 hlt8 hb8 ro8 dl8 hD ys8 zs8 hys hD3 nD3 hy3 mx
    obtain ⟨tp, m⟩ := q
    have mlen : m.length ≤ 12 := Zlen _ (Yin _ hqY).1
    -- none inside the lot is not inside the top
    refine ⟨_, rfl, D, rfl, ⟨_, SqL.of hD9⟩, fun D4 nD4 => ?_⟩
    refine lcF (L := Y) (F := F2) walk_listM nD4 (by omega) (fun q => !decide ((q.2.filter fun x => decide (x ∉ m)) = [])) F2 (fun H2 t => SqL.of (t _ _ hD9)) (fun _ => rfl) ?_ ?_ ?_
    · intro q hq H10 R s10 kk
      have hq10 := s10 _ _ (ys9 q hq)
      have htp10 := s10 _ _ hy4
      refine ⟨_, rfl, q.1, rfl, ⟨_, SqT.of hq10⟩, fun D2 nD2 => ?_⟩
      refine lcF (L := q.2) (F := nV) walk_tupM nD2 (by have := Zlen q (Yin q hq).1; omega) (fun x => decide (x ∉ m)) nV (fun H2 t => SqT.of (t _ _ hq10)) (fun _ => rfl) ?_ ?_ ?_
      · intro x hx H11 R9 s11 kk9
        refine ⟨_, rfl, _, rfl, tp, _, rfl, .inr (SqT.of (s11 _ _ htp10)), rfl, flat_nVs m, _, rfl, ?_⟩
        rw [inV_nV]
        have e : (!decide (x ∈ m)) = decide (x ∉ m) := by simp
        have : R9 (decide (x ∉ m)) H11 := kk9 H11 (Same.refl _)
        rw [← e] at this
        exact this
      · intro x hx _ H11 R9 s11 kk9
        exact ⟨_, rfl, kk9 H11 (Same.refl _)⟩
      · intro H11 s11 hD2
        refine ⟨Nat.zero_le _, fun e5 he5 => ?_⟩
        have u5 : Same H11 (L2.upd H11 e5 (.lst [])) := same_new he5
        refine ⟨_, _, .lst (SqL.of (u5 _ _ hD2)) (dpAll_nV _), .lst (SqL.of upd_same) (dpAll_nV []), shaped_lst _, shaped_lst [], _, rfl, ?_⟩
        rw [eqv_lst]
        exact kk _ (s11.trans u5)
    · intro q hq _ H10 R s10 kk
      exact ⟨_, rfl, kk H10 (Same.refl _)⟩
    intro H10 s10 hD4
    have none4 : (Y.filter fun q => !decide ((q.2.filter fun x => decide (x ∉ m)) = [])) = [] := by
      rw [List.filter_eq_nil_iff]
      intro q hq z
      have : (q.2.filter fun x => decide (x ∉ m)) = [] := by
        rw [List.filter_eq_nil_iff]
        exact fun x hx z => of_decide_eq_true z (allin q hq x hx)
      rw [this] at z
      exact Bool.noConfusion z
    rw [none4] at hD4
    have eD4 : H10 D4 = some (.lst (([] : List Nat).map nV)) := hD4
    refine ⟨Nat.zero_le _, fun e5 he5 => ?_⟩
    have u5 : Same H10 (L2.upd H10 e5 (.lst [])) := same_new he5
    refine ⟨_, _, .lst (SqL.of (u5 _ _ eD4)) (dpAll_nV _), .lst (SqL.of upd_same) (dpAll_nV []), shaped_lst _, shaped_lst [], _, rfl, ?_⟩
    rw [eqv_lst]
    refine iteF ?_
    have t11 := s10.trans u5
    generalize L2.upd H10 e5 (.lst []) = H11 at t11
    have hlt11 := t11 _ _ hlt9
    have hb11 := hb9.same t11
    have ro11 := ro9.same t11
    have dl11 := dl9.move (fun _ e => t11 _ _ e)
    have htp11 := t11 _ _ hy4
    clear u5 he5 eD4 hD4 s10 t11 hlt9 hb9 ro9 dl9 hy4 nD4 ys9 hD9 none4 allin Yof Yin hqY
    -- rest
    refine ⟨_, rfl, lt, rfl, ⟨_, SqT.of hlt11⟩, fun D5 nD5 => ?_⟩
    refine lcF (L := W) (F := nV) walk_tupM nD5 (by omega) (fun x => decide (x ∉ m)) nV (fun H2 t => SqT.of (t _ _ hlt11)) (fun _ => rfl) ?_ ?_ ?_
    · intro x hx H12 R s12 kk
      refine ⟨_, rfl, _, rfl, tp, _, rfl, .inr (SqT.of (s12 _ _ htp11)), rfl, flat_nVs m, _, rfl, ?_⟩
      rw [inV_nV]
      have e : (!decide (x ∈ m)) = decide (x ∉ m) := by simp
      have : R (decide (x ∉ m)) H12 := kk H12 (Same.refl _)
      rw [← e] at this
      exact this
    · intro x hx _ H12 R s12 kk
      exact ⟨_, rfl, kk H12 (Same.refl _)⟩
    intro H12 s12 hD5
    refine ⟨D5, _, rfl, .inl ⟨SqL.of hD5, fun rs hrs => ?_⟩⟩
    have s13 : Same H12 (L2.upd H12 rs (.tup ((W.filter fun x => decide (x ∉ m)).map nV))) := same_new hrs
    have hrs13 : L2.upd H12 rs (.tup ((W.filter fun x => decide (x ∉ m)).map nV)) rs = some (.tup ((W.filter fun x => decide (x ∉ m)).map nV)) := upd_same
    generalize L2.upd H12 rs (.tup ((W.filter fun x => decide (x ∉ m)).map nV)) = H13 at s13 hrs13
    have t13 := s12.trans s13
    have hlt13 := t13 _ _ hlt11
    have hb13 := hb11.same t13
    have ro13 := ro11.same t13
    have dl13 := dl11.move (fun _ e => t13 _ _ e)
    have htp13 := t13 _ _ htp11
    clear s12 s13 t13 hlt11 hb11 ro11 dl11 htp11 nD5 hD5 hrs
    -- greatest_within, stuck
    refine ⟨_, rfl, _, rfl, p, lt, B, W, rfl, hb13, bo, hlt13, lo, fun H14 g1 s1 C1 t14 _ hg1 c1 => ?_⟩
    obtain rfl := clo.one bo c1
    refine ⟨_, rfl, _, rfl, p, lt, B, W, rfl, hb13.same t14, bo, t14 _ _ hlt13, lo, fun H15 g2 s2 C2 t15 _ hg2 c2 => ?_⟩
    obtain rfl := clo.one bo c2
    refine ⟨by show 2 ≤ sizeLine; decide, fun l1 hl1 => ?_⟩
    have u16 : Same H15 (L2.upd H15 l1 (.lst [.ref g1, .ref g2])) := same_new hl1
    have e16 : L2.upd H15 l1 (.lst [.ref g1, .ref g2]) l1 = some (.lst [.ref g1, .ref g2]) := upd_same
    generalize L2.upd H15 l1 (.lst [.ref g1, .ref g2]) = H16 at u16 e16
    have t16 := (t14.trans t15).trans u16
    refine ⟨_, rfl, _, rfl, by show 2 ≤ sizeLine; decide, fun l2 hl2 => ?_⟩
    have u17 : Same H16 (L2.upd H16 l2 (.lst [.ref tp, .ref rs])) := same_new hl2
    have e17 : L2.upd H16 l2 (.lst [.ref tp, .ref rs]) l2 = some (.lst [.ref tp, .ref rs]) := upd_same
    generalize L2.upd H16 l2 (.lst [.ref tp, .ref rs]) = H17 at u17 e17
    have t17 := t16.trans u17
    have flen : (W.filter fun x => decide (x ∉ m)).length ≤ W.length := List.length_filter_le _ _
    refine ⟨l1, l2, g1, g2, tp, rs, m, W.filter (fun x => decide (x ∉ m)), rfl, u17 _ _ e16, e17, u17 _ _ (u16 _ _ (t15 _ _ hg1)), t17 _ _ htp13, u17 _ _ (u16 _ _ hg2), t17 _ _ hrs13, Nat.le_trans mlen (by omega), Nat.le_trans flen (by omega), fun H18 t18 => ?_⟩
    refine ⟨true, rfl, iteF ?_⟩
    have t18 := t17.trans t18
    have hlt18 := t18 _ _ hlt13
    have hb18 := hb13.same t18
    have ro18 := ro13.same t18
    have dl18 := dl13.move (fun _ e => t18 _ _ e)
    clear t17 t16 t15 t14 u17 u16 e16 e17 hlt13 hb13 ro13 dl13 htp13 hrs13 hl1 hl2 hg1 hg2
    clear clo c1 c2 Zlen Slen
    -- some_strikes
    refine ⟨_, rfl, _, rfl, p, lt, B, W, rfl, hb18, bo, hlt18, lo, fun H19 sp s t19 _ hsp hs => ?_, fun H19 t19 nc => ?_⟩
    rotate_left
    · -- does not come
      have hlt19 := t19 _ _ hlt18
      have hb19 := hb18.same t19
      have dl19 := dl18.move (fun _ e => t19 _ _ e)
      have eN : (!(valV kvs (keyOf W)).isSome) = true := by
        rw [dl19.has W, decide_eq_false (fun z => nc ((hL W).mp z))]
        rfl
      refine ⟨_, rfl, _, rfl, d, _, rfl, DGet.t dl19.1 (tup_key hlt19), _, rfl, ?_⟩
      rw [eN]
      refine iteT ?_
      refine ⟨_, rfl, rfl, _, rfl, iteT ?_⟩
      refine ⟨_, rfl, _, rfl, _, rfl, p, lt, B, W, _, rfl, hb19, bo, hlt19, lo, .inr ⟨lt, W.map nV, rfl, hlt19, items_nV W, fun H20 b t20 hb => ?_⟩⟩
      have eb : b = false := by
        cases b with
        | false => rfl
        | true =>
          obtain ⟨s, e, hs⟩ := hb.mp rfl
          exact (nc ⟨s, hs⟩).elim
      subst eb
      refine ⟨false, false, rfl, rfl, _, rfl, iteF ?_⟩
      have hlt20 := t20 _ _ hlt19
      have hb20 := hb19.same t20
      refine ⟨_, rfl, _, rfl, p, lt, B, W, .non, rfl, hb20, bo, hlt20, lo, .inl ⟨.inl rfl, fun H21 t21 => ⟨false, false, rfl, rfl, q_bl (by decide) (k H21)⟩⟩⟩
    · have hlt19 := t19 _ _ hlt18
      have hb19 := hb18.same t19
      have ro19 := ro18.same t19
      have dl19 := dl18.move (fun _ e => t19 _ _ e)
      have eN : (!(valV kvs (keyOf W)).isSome) = false := by
        rw [dl19.has W, decide_eq_true ((hL W).mpr ⟨s, hs⟩)]
        rfl
      refine ⟨_, rfl, _, rfl, d, _, rfl, DGet.t dl19.1 (tup_key hlt19), _, rfl, ?_⟩
      rw [eN]
      refine iteF ?_
      clear dl18 dl19 hlt18 hb18 ro18 eN hL t19
      refine ⟨_, rfl, _, _, _, _, true, rfl, .ty _, .base (.tup hsp), kit_ty (by decide +kernel), true, rfl, iteF ?_⟩
      refine ⟨_, rfl, _, rfl, p, sp, B, s, W, rfl, hb19, bo, hsp, hs, fun H20 pl t20 hpl => ?_⟩
      have hlt20 := t20 _ _ hlt19
      refine ⟨_, rfl, _, _, .tup (SqT.of hpl) (dpAll_nV W), .tup (SqT.of hlt20) (dpAll_nV W), shaped_tup W, shaped_tup W, _, rfl, ?_⟩
      rw [eqv_tup]
      refine iteNS rfl ?_
      have hb20 := hb19.same t20
      have ro20 := ro19.same t20
      have hsp20 := t20 _ _ hsp
      refine ⟨_, rfl, _, rfl, _, rfl, p, lt, B, W, _, rfl, hb20, bo, hlt20, lo, .inr ⟨sp, s.map nV, rfl, hsp20, items_nV s, fun H21 b t21 hb => ?_⟩⟩
      obtain rfl : b = true := hb.mpr ⟨s, rfl, hs⟩
      refine ⟨true, true, rfl, rfl, _, rfl, iteNS rfl ?_⟩
      have hlt21 := t21 _ _ hlt20
      have hb21 := hb20.same t21
      have ro21 := ro20.same t21
      have hsp21 := t21 _ _ hsp20
      clear hlt19 hlt20 hb19 hb20 ro19 ro20 hsp hsp20 hpl t20 t21 hb
      -- a row of strikes drawn
      refine ⟨_, rfl, _, rfl, _, rfl, r, _, rfl, ro21, by decide, by decide, fun H22 v v0 v7 t22 ro22 => ?_⟩
      refine ⟨r, p, v, B, rfl, ro22, hb21.sb ro21 t22, bo, v0, by omega, fun H23 td ts tl u U t23 ro23 htd hts htl hu2 => ?_⟩
      refine ⟨td, _, rfl, SqT.of htd, rfl, _, _, rfl, _, _, rfl, rfl, ?_⟩
      have tp23 := (SB.tups ro21 t22).trans (SB.tups ro22 t23)
      have hlt23 := tp23 _ _ hlt21
      have hb23 := hb21.tups tp23
      have hsp23 := tp23 _ _ hsp21
      clear t22 t23 tp23 ro21 ro22 hlt21 hb21 hsp21 htd
      refine ⟨_, rfl, _, rfl, _, rfl, p, lt, B, W, _, rfl, hb23, bo, hlt23, lo, .inr ⟨ts, u.map nV, rfl, hts, items_nV u, fun H24 b t24 hb => ?_⟩⟩
      have hlt24 := t24 _ _ hlt23
      refine ⟨_, rfl, _, rfl, _, _, .tup (SqT.of (t24 _ _ htl)) (dpAll_nV U), .tup (SqT.of hlt24) (dpAll_nV W), shaped_tup U, shaped_tup W, ?_⟩
      rw [eqv_tup]
      have eb : b = decide (U = W) := by
        rw [Bool.eq_iff_iff, hb, decide_eq_true_iff]
        constructor
        · rintro ⟨s', e, hs'⟩
          have := nVs_inj e
          subst this
          exact hu2.fn hs'
        · rintro rfl
          exact ⟨u, rfl, hu2⟩
      refine ⟨b, decide (U = W), rfl, _, rfl, iteNS eb ?_⟩
      clear hb eb
      have hb24 := hb23.same t24
      have ro24 := ro23.same t24
      have hsp24 := t24 _ _ hsp23
      have hts24 := t24 _ _ hts
      have htl24 := t24 _ _ htl
      clear hb23 ro23 hsp23 hts htl hlt23 t24
      refine ⟨_, rfl, _, rfl, _, rfl, p, tl, B, U, _, rfl, hb24, bo, htl24, hu2.lotOk bo, .inr ⟨ts, u.map nV, rfl, hts24, items_nV u, fun H25 b t25 hb => ?_⟩⟩
      obtain rfl : b = true := hb.mpr ⟨u, rfl, hu2⟩
      refine ⟨true, true, rfl, rfl, _, rfl, iteNS rfl ?_⟩
      have hlt25 := t25 _ _ hlt24
      have hb25 := hb24.same t25
      have ro25 := ro24.same t25
      have hsp25 := t25 _ _ hsp24
      clear hb hb24 ro24 hsp24 hts24 htl24 hlt24 t25
      have slen : s.length ≤ 12 := by rw [hs.len]; exact hWlen
      -- seven odd things
      refine ⟨_, rfl, _, rfl, sp, _, rfl, .inr (SqT.of hsp25), fun l1 hl1 => ?_⟩
      have u1 : Same H25 (L2.upd H25 l1 (.lst (s.map nV))) := same_new hl1
      have e1 : L2.upd H25 l1 (.lst (s.map nV)) l1 = some (.lst (s.map nV)) := upd_same
      generalize L2.upd H25 l1 (.lst (s.map nV)) = H26 at u1 e1
      refine ⟨by show 1 ≤ sizeLine; decide, fun l2 hl2 => ?_⟩
      have u2 : Same H26 (L2.upd H26 l2 (.lst [.int 0])) := same_new hl2
      have e2 : L2.upd H26 l2 (.lst [.int 0]) l2 = some (.lst [.int 0]) := upd_same
      generalize L2.upd H26 l2 (.lst [.int 0]) = H27 at u2 e2
      refine ⟨l1, l2, _, _, rfl, rfl, u2 _ _ e1, e2, ?_, fun l3 hl3 => ?_⟩
      · rw [List.length_map]
        exact len_small (by simp; omega)
      have u3 : Same H27 (L2.upd H27 l3 (.lst (s.map nV ++ [.int 0]))) := same_new hl3
      have e3 : L2.upd H27 l3 (.lst (s.map nV ++ [.int 0])) l3 = some (.lst (s.map nV ++ [.int 0])) := upd_same
      have l3r : r ≠ l3 := (ro25.same (u1.trans u2)).ne hl3
      generalize L2.upd H27 l3 (.lst (s.map nV ++ [.int 0])) = H28 at u3 e3
      have t28 := (u1.trans u2).trans u3
      refine ⟨_, rfl, by show 1 ≤ sizeLine; decide, ?_⟩
      refine cat_one (t28 _ _ hsp25) (by omega) fun H29 p4 t29 _ e4 => ?_
      refine ⟨_, rfl, by show 1 ≤ sizeLine; decide, ?_⟩
      refine cat_one (t29 _ _ (t28 _ _ hsp25)) (by omega) fun H30 p5 t30 _ e5 => ?_
      refine ⟨_, rfl, by show 1 ≤ sizeLine; decide, fun q6 hq6 => ⟨by show 1 ≤ sizeLine; decide, ?_⟩⟩
      have u6 : Same H30 (L2.upd H30 q6 (.tup [.int 0])) := same_new hq6
      have e6 : L2.upd H30 q6 (.tup [.int 0]) q6 = some (.tup [.int 0]) := upd_same
      generalize L2.upd H30 q6 (.tup [.int 0]) = H31 at u6 e6
      refine cat_one (u6 _ _ (t30 _ _ (t29 _ _ (t28 _ _ hsp25)))) (by omega) fun H32 p6 t32 _ e7 => ?_
      refine ⟨by show 7 ≤ sizeLine; decide, fun pl hpl => ?_⟩
      have t31 := ((t28.trans t29).trans t30).trans u6
      have t32' := t31.trans t32
      have ro32 := ro25.same t32'
      have u33 : Same H32 (L2.upd H32 pl (.lst [.non, .int 3, .ref l3, .ref p4, .ref p5, .str "0", .ref p6])) := same_new hpl
      have e33 : L2.upd H32 pl (.lst [.non, .int 3, .ref l3, .ref p4, .ref p5, .str "0", .ref p6]) pl = some (.lst [.non, .int 3, .ref l3, .ref p4, .ref p5, .str "0", .ref p6]) := upd_same
      refine ⟨r, pl, _, rfl, ro32.same u33, (ro32.ne hpl).symm, e33, (fun z => by cases z), by show 7 ≤ 1000; decide, fun H34 x hx t34 ro34 => ?_⟩
      have s34 : SB r H32 H34 := (SB.of u33).trans t34
      have q34 := SB.tups ro32 s34
      have tp34 : Tups H25 H34 := t32'.tups.trans q34
      have hlt34 := tp34 _ _ hlt25
      have hb34 := hb25.tups tp34
      have i3 := s34 _ _ l3r.symm (t32 _ _ (u6 _ _ (t30 _ _ (t29 _ _ e3))))
      have i4 := q34 _ _ (t32 _ _ (u6 _ _ (t30 _ _ e4)))
      have i5 := q34 _ _ (t32 _ _ (u6 _ _ e5))
      have i6 := q34 _ _ (t32 _ _ e6)
      have i7 := q34 _ _ e7
      have bad : ∀ (y : V), (∀ n, n < nB B → nV n ≠ y) → ¬ ∃ s', s.map nV ++ [y] = s'.map nV ∧ Strk B s' W := by
        rintro y hy ⟨s', e, hs'⟩
        have : y ∈ s'.map nV := by
          rw [← e]
          exact List.mem_append.mpr (.inr (List.mem_singleton.mpr rfl))
        obtain ⟨n, hn, e2⟩ := List.mem_map.mp this
        exact hy n (hs'.lt n ((hs'.mem n).mp hn)) e2
      have items : ∀ y, IsItem H34 y → ∀ z ∈ s.map nV ++ [y], IsItem H34 z := fun y hy z hz => by
        rcases List.mem_append.mp hz with hz | hz
        · exact items_nV s z hz
        · rw [List.mem_singleton.mp hz]
          exact hy
      have odd : NoTup H34 x ∨ ∃ t xs, x = .ref t ∧ H34 t = some (.tup xs) ∧ (∀ y ∈ xs, IsItem H34 y) ∧ ¬ ∃ s', xs = s'.map nV ∧ Strk B s' W := by
        rcases List.mem_cons.mp hx with rfl | hx
        · exact .inl (.inl rfl)
        rcases List.mem_cons.mp hx with rfl | hx
        · exact .inl (.inr (.inl ⟨3, rfl⟩))
        rcases List.mem_cons.mp hx with rfl | hx
        · exact .inl (.inr (.inr (.inr ⟨l3, _, rfl, i3⟩)))
        rcases List.mem_cons.mp hx with rfl | hx
        · exact .inr ⟨p4, _, rfl, i4, items _ (.inr (.inl ⟨true, rfl⟩)), bad _ fun n _ z => V.noConfusion z⟩
        rcases List.mem_cons.mp hx with rfl | hx
        · refine .inr ⟨p5, _, rfl, i5, items _ (.inl ⟨99, rfl⟩), bad _ fun n hn z => ?_⟩
          have : (n : Int) = 99 := V.int.inj z
          omega
        rcases List.mem_cons.mp hx with rfl | hx
        · exact .inl (.inr (.inr (.inl ⟨_, rfl⟩)))
        rcases List.mem_cons.mp hx with rfl | hx
        · exact .inr ⟨p6, _, rfl, i7, items _ (.inr (.inr ⟨q6, _, rfl, i6⟩)), bad _ fun n _ z => V.noConfusion z⟩
        · simp at hx
      refine ⟨_, rfl, _, rfl, _, rfl, p, lt, B, W, x, rfl, hb34, bo, hlt34, lo, ?_⟩
      rcases odd with h | ⟨t, xs, e, ht, hit, no⟩
      · exact .inl ⟨h, fun H35 _ => ⟨false, false, rfl, rfl, q_bl (by decide) (k H35)⟩⟩
      · refine .inr ⟨t, xs, e, ht, hit, fun H35 b _ hb => ?_⟩
        have eb : b = false := by
          cases b with
          | false => rfl
          | true => exact (no (hb.mp rfl)).elim
        subst eb
        exact ⟨false, false, rfl, rfl, q_bl (by decide) (k H35)⟩
end
end K1
namespace K1
open PySem PySem.Spec PyProof.Rows L2
/-! ### what the top has written -/
theorem all_mk {l : PySem.W.OpenLaw} {w : World} {K : PySem.W.Frag} {h : Heap} {mg : Str → Option Value} {fa : Addr} (X : K.In h) (G : h.Ns mainGlobals mg) (hfa : mg "law" = some (.ref fa))
    {f0 : Addr} {od0 an0 : Option Addr} {sl0 : Array (Option Value)} {oc0 kV0 dc0 pm0 cd0 ct0 : Value}
    (a0 : PySem.W.nsIn K mainGlobals "is_int" = some (some (.ref f0))) (l0 : K.lookup f0 = some ⟨oc0, od0, .func (PySem.W.fnOf "is_int" "is_int" (defArgs s_is_int) (defBody s_is_int) (defScope s_is_int) .none kV0 dc0 pm0 an0 cd0 ct0), sl0⟩) (c0 : PySem.W.codeIn K cd0 "is_int" = true) (k0 : PySem.W.keepIn K (.ref f0) = true)
    {f1 : Addr} {od1 an1 : Option Addr} {sl1 : Array (Option Value)} {oc1 kV1 dc1 pm1 cd1 ct1 : Value}
    (a1 : PySem.W.nsIn K mainGlobals "is_from" = some (some (.ref f1))) (l1 : K.lookup f1 = some ⟨oc1, od1, .func (PySem.W.fnOf "is_from" "is_from" (defArgs s_is_from) (defBody s_is_from) (defScope s_is_from) .none kV1 dc1 pm1 an1 cd1 ct1), sl1⟩) (c1 : PySem.W.codeIn K cd1 "is_from" = true) (k1 : PySem.W.keepIn K (.ref f1) = true)
    {f2 : Addr} {od2 an2 : Option Addr} {sl2 : Array (Option Value)} {oc2 kV2 dc2 pm2 cd2 ct2 : Value}
    (a2 : PySem.W.nsIn K mainGlobals "is_place" = some (some (.ref f2))) (l2 : K.lookup f2 = some ⟨oc2, od2, .func (PySem.W.fnOf "is_place" "is_place" (defArgs s_is_place) (defBody s_is_place) (defScope s_is_place) .none kV2 dc2 pm2 an2 cd2 ct2), sl2⟩) (c2 : PySem.W.codeIn K cd2 "is_place" = true) (k2 : PySem.W.keepIn K (.ref f2) = true)
    {f3 : Addr} {od3 an3 : Option Addr} {sl3 : Array (Option Value)} {oc3 kV3 dc3 pm3 cd3 ct3 : Value}
    (a3 : PySem.W.nsIn K mainGlobals "need_board" = some (some (.ref f3))) (l3 : K.lookup f3 = some ⟨oc3, od3, .func (PySem.W.fnOf "need_board" "need_board" (defArgs s_need_board) (defBody s_need_board) (defScope s_need_board) .none kV3 dc3 pm3 an3 cd3 ct3), sl3⟩) (c3 : PySem.W.codeIn K cd3 "need_board" = true) (k3 : PySem.W.keepIn K (.ref f3) = true)
    {f4 : Addr} {od4 an4 : Option Addr} {sl4 : Array (Option Value)} {oc4 kV4 dc4 pm4 cd4 ct4 : Value}
    (a4 : PySem.W.nsIn K mainGlobals "sides" = some (some (.ref f4))) (l4 : K.lookup f4 = some ⟨oc4, od4, .func (PySem.W.fnOf "sides" "sides" (defArgs s_sides) (defBody s_sides) (defScope s_sides) .none kV4 dc4 pm4 an4 cd4 ct4), sl4⟩) (c4 : PySem.W.codeIn K cd4 "sides" = true) (k4 : PySem.W.keepIn K (.ref f4) = true)
    {f5 : Addr} {od5 an5 : Option Addr} {sl5 : Array (Option Value)} {oc5 kV5 dc5 pm5 cd5 ct5 : Value}
    (a5 : PySem.W.nsIn K mainGlobals "lines_of" = some (some (.ref f5))) (l5 : K.lookup f5 = some ⟨oc5, od5, .func (PySem.W.fnOf "lines_of" "lines_of" (defArgs s_lines_of) (defBody s_lines_of) (defScope s_lines_of) .none kV5 dc5 pm5 an5 cd5 ct5), sl5⟩) (c5 : PySem.W.codeIn K cd5 "lines_of" = true) (k5 : PySem.W.keepIn K (.ref f5) = true)
    {f6 : Addr} {od6 an6 : Option Addr} {sl6 : Array (Option Value)} {oc6 kV6 dc6 pm6 cd6 ct6 : Value}
    (a6 : PySem.W.nsIn K mainGlobals "is_lot" = some (some (.ref f6))) (l6 : K.lookup f6 = some ⟨oc6, od6, .func (PySem.W.fnOf "is_lot" "is_lot" (defArgs s_is_lot) (defBody s_is_lot) (defScope s_is_lot) .none kV6 dc6 pm6 an6 cd6 ct6), sl6⟩) (c6 : PySem.W.codeIn K cd6 "is_lot" = true) (k6 : PySem.W.keepIn K (.ref f6) = true)
    {f7 : Addr} {od7 an7 : Option Addr} {sl7 : Array (Option Value)} {oc7 kV7 dc7 pm7 cd7 ct7 : Value}
    (a7 : PySem.W.nsIn K mainGlobals "need_lot" = some (some (.ref f7))) (l7 : K.lookup f7 = some ⟨oc7, od7, .func (PySem.W.fnOf "need_lot" "need_lot" (defArgs s_need_lot) (defBody s_need_lot) (defScope s_need_lot) .none kV7 dc7 pm7 an7 cd7 ct7), sl7⟩) (c7 : PySem.W.codeIn K cd7 "need_lot" = true) (k7 : PySem.W.keepIn K (.ref f7) = true)
    {f8 : Addr} {od8 an8 : Option Addr} {sl8 : Array (Option Value)} {oc8 kV8 dc8 pm8 cd8 ct8 : Value}
    (a8 : PySem.W.nsIn K mainGlobals "left_of" = some (some (.ref f8))) (l8 : K.lookup f8 = some ⟨oc8, od8, .func (PySem.W.fnOf "left_of" "left_of" (defArgs s_left_of) (defBody s_left_of) (defScope s_left_of) .none kV8 dc8 pm8 an8 cd8 ct8), sl8⟩) (c8 : PySem.W.codeIn K cd8 "left_of" = true) (k8 : PySem.W.keepIn K (.ref f8) = true)
    {f9 : Addr} {od9 an9 : Option Addr} {sl9 : Array (Option Value)} {oc9 kV9 dc9 pm9 cd9 ct9 : Value}
    (a9 : PySem.W.nsIn K mainGlobals "numbers" = some (some (.ref f9))) (l9 : K.lookup f9 = some ⟨oc9, od9, .func (PySem.W.fnOf "numbers" "numbers" (defArgs s_numbers) (defBody s_numbers) (defScope s_numbers) .none kV9 dc9 pm9 an9 cd9 ct9), sl9⟩) (c9 : PySem.W.codeIn K cd9 "numbers" = true) (k9 : PySem.W.keepIn K (.ref f9) = true)
    {f10 : Addr} {od10 an10 : Option Addr} {sl10 : Array (Option Value)} {oc10 kV10 dc10 pm10 cd10 ct10 : Value}
    (a10 : PySem.W.nsIn K mainGlobals "same_side" = some (some (.ref f10))) (l10 : K.lookup f10 = some ⟨oc10, od10, .func (PySem.W.fnOf "same_side" "same_side" (defArgs s_same_side) (defBody s_same_side) (defScope s_same_side) .none kV10 dc10 pm10 an10 cd10 ct10), sl10⟩) (c10 : PySem.W.codeIn K cd10 "same_side" = true) (k10 : PySem.W.keepIn K (.ref f10) = true)
    {f11 : Addr} {od11 an11 : Option Addr} {sl11 : Array (Option Value)} {oc11 kV11 dc11 pm11 cd11 ct11 : Value}
    (a11 : PySem.W.nsIn K mainGlobals "is_greater" = some (some (.ref f11))) (l11 : K.lookup f11 = some ⟨oc11, od11, .func (PySem.W.fnOf "is_greater" "is_greater" (defArgs s_is_greater) (defBody s_is_greater) (defScope s_is_greater) .none kV11 dc11 pm11 an11 cd11 ct11), sl11⟩) (c11 : PySem.W.codeIn K cd11 "is_greater" = true) (k11 : PySem.W.keepIn K (.ref f11) = true)
    {f12 : Addr} {od12 an12 : Option Addr} {sl12 : Array (Option Value)} {oc12 kV12 dc12 pm12 cd12 ct12 : Value}
    (a12 : PySem.W.nsIn K mainGlobals "can_fall" = some (some (.ref f12))) (l12 : K.lookup f12 = some ⟨oc12, od12, .func (PySem.W.fnOf "can_fall" "can_fall" (defArgs s_can_fall) (defBody s_can_fall) (defScope s_can_fall) .none kV12 dc12 pm12 an12 cd12 ct12), sl12⟩) (c12 : PySem.W.codeIn K cd12 "can_fall" = true) (k12 : PySem.W.keepIn K (.ref f12) = true)
    {f13 : Addr} {od13 an13 : Option Addr} {sl13 : Array (Option Value)} {oc13 kV13 dc13 pm13 cd13 ct13 : Value}
    (a13 : PySem.W.nsIn K mainGlobals "with_line" = some (some (.ref f13))) (l13 : K.lookup f13 = some ⟨oc13, od13, .func (PySem.W.fnOf "with_line" "with_line" (defArgs s_with_line) (defBody s_with_line) (defScope s_with_line) .none kV13 dc13 pm13 an13 cd13 ct13), sl13⟩) (c13 : PySem.W.codeIn K cd13 "with_line" = true) (k13 : PySem.W.keepIn K (.ref f13) = true)
    {f14 : Addr} {od14 an14 : Option Addr} {sl14 : Array (Option Value)} {oc14 kV14 dc14 pm14 cd14 ct14 : Value}
    (a14 : PySem.W.nsIn K mainGlobals "run" = some (some (.ref f14))) (l14 : K.lookup f14 = some ⟨oc14, od14, .func (PySem.W.fnOf "run" "run" (defArgs s_run) (defBody s_run) (defScope s_run) .none kV14 dc14 pm14 an14 cd14 ct14), sl14⟩) (c14 : PySem.W.codeIn K cd14 "run" = true) (k14 : PySem.W.keepIn K (.ref f14) = true)
    {f15 : Addr} {od15 an15 : Option Addr} {sl15 : Array (Option Value)} {oc15 kV15 dc15 pm15 cd15 ct15 : Value}
    (a15 : PySem.W.nsIn K mainGlobals "need_strikes" = some (some (.ref f15))) (l15 : K.lookup f15 = some ⟨oc15, od15, .func (PySem.W.fnOf "need_strikes" "need_strikes" (defArgs s_need_strikes) (defBody s_need_strikes) (defScope s_need_strikes) .none kV15 dc15 pm15 an15 cd15 ct15), sl15⟩) (c15 : PySem.W.codeIn K cd15 "need_strikes" = true) (k15 : PySem.W.keepIn K (.ref f15) = true)
    {f16 : Addr} {od16 an16 : Option Addr} {sl16 : Array (Option Value)} {oc16 kV16 dc16 pm16 cd16 ct16 : Value}
    (a16 : PySem.W.nsIn K mainGlobals "play" = some (some (.ref f16))) (l16 : K.lookup f16 = some ⟨oc16, od16, .func (PySem.W.fnOf "play" "play" (defArgs s_play) (defBody s_play) (defScope s_play) .none kV16 dc16 pm16 an16 cd16 ct16), sl16⟩) (c16 : PySem.W.codeIn K cd16 "play" = true) (k16 : PySem.W.keepIn K (.ref f16) = true)
    {f17 : Addr} {od17 an17 : Option Addr} {sl17 : Array (Option Value)} {oc17 kV17 dc17 pm17 cd17 ct17 : Value}
    (a17 : PySem.W.nsIn K mainGlobals "closure" = some (some (.ref f17))) (l17 : K.lookup f17 = some ⟨oc17, od17, .func (PySem.W.fnOf "closure" "closure" (defArgs s_closure) (defBody s_closure) (defScope s_closure) .none kV17 dc17 pm17 an17 cd17 ct17), sl17⟩) (c17 : PySem.W.codeIn K cd17 "closure" = true) (k17 : PySem.W.keepIn K (.ref f17) = true)
    {f18 : Addr} {od18 an18 : Option Addr} {sl18 : Array (Option Value)} {oc18 kV18 dc18 pm18 cd18 ct18 : Value}
    (a18 : PySem.W.nsIn K mainGlobals "is_reached" = some (some (.ref f18))) (l18 : K.lookup f18 = some ⟨oc18, od18, .func (PySem.W.fnOf "is_reached" "is_reached" (defArgs s_is_reached) (defBody s_is_reached) (defScope s_is_reached) .none kV18 dc18 pm18 an18 cd18 ct18), sl18⟩) (c18 : PySem.W.codeIn K cd18 "is_reached" = true) (k18 : PySem.W.keepIn K (.ref f18) = true)
    {f19 : Addr} {od19 an19 : Option Addr} {sl19 : Array (Option Value)} {oc19 kV19 dc19 pm19 cd19 ct19 : Value}
    (a19 : PySem.W.nsIn K mainGlobals "comes" = some (some (.ref f19))) (l19 : K.lookup f19 = some ⟨oc19, od19, .func (PySem.W.fnOf "comes" "comes" (defArgs s_comes) (defBody s_comes) (defScope s_comes) .none kV19 dc19 pm19 an19 cd19 ct19), sl19⟩) (c19 : PySem.W.codeIn K cd19 "comes" = true) (k19 : PySem.W.keepIn K (.ref f19) = true)
    {f20 : Addr} {od20 an20 : Option Addr} {sl20 : Array (Option Value)} {oc20 kV20 dc20 pm20 cd20 ct20 : Value}
    (a20 : PySem.W.nsIn K mainGlobals "greatest_within" = some (some (.ref f20))) (l20 : K.lookup f20 = some ⟨oc20, od20, .func (PySem.W.fnOf "greatest_within" "greatest_within" (defArgs s_greatest_within) (defBody s_greatest_within) (defScope s_greatest_within) .none kV20 dc20 pm20 an20 cd20 ct20), sl20⟩) (c20 : PySem.W.codeIn K cd20 "greatest_within" = true) (k20 : PySem.W.keepIn K (.ref f20) = true)
    {f21 : Addr} {od21 an21 : Option Addr} {sl21 : Array (Option Value)} {oc21 kV21 dc21 pm21 cd21 ct21 : Value}
    (a21 : PySem.W.nsIn K mainGlobals "stuck" = some (some (.ref f21))) (l21 : K.lookup f21 = some ⟨oc21, od21, .func (PySem.W.fnOf "stuck" "stuck" (defArgs s_stuck) (defBody s_stuck) (defScope s_stuck) .none kV21 dc21 pm21 an21 cd21 ct21), sl21⟩) (c21 : PySem.W.codeIn K cd21 "stuck" = true) (k21 : PySem.W.keepIn K (.ref f21) = true)
    {f22 : Addr} {od22 an22 : Option Addr} {sl22 : Array (Option Value)} {oc22 kV22 dc22 pm22 cd22 ct22 : Value}
    (a22 : PySem.W.nsIn K mainGlobals "some_strikes" = some (some (.ref f22))) (l22 : K.lookup f22 = some ⟨oc22, od22, .func (PySem.W.fnOf "some_strikes" "some_strikes" (defArgs s_some_strikes) (defBody s_some_strikes) (defScope s_some_strikes) .none kV22 dc22 pm22 an22 cd22 ct22), sl22⟩) (c22 : PySem.W.codeIn K cd22 "some_strikes" = true) (k22 : PySem.W.keepIn K (.ref f22) = true)
    {f23 : Addr} {od23 an23 : Option Addr} {sl23 : Array (Option Value)} {oc23 kV23 dc23 pm23 cd23 ct23 : Value}
    (a23 : PySem.W.nsIn K mainGlobals "shows_strikes" = some (some (.ref f23))) (l23 : K.lookup f23 = some ⟨oc23, od23, .func (PySem.W.fnOf "shows_strikes" "shows_strikes" (defArgs s_shows_strikes) (defBody s_shows_strikes) (defScope s_shows_strikes) .none kV23 dc23 pm23 an23 cd23 ct23), sl23⟩) (c23 : PySem.W.codeIn K cd23 "shows_strikes" = true) (k23 : PySem.W.keepIn K (.ref f23) = true)
    {f24 : Addr} {od24 an24 : Option Addr} {sl24 : Array (Option Value)} {oc24 kV24 dc24 pm24 cd24 ct24 : Value}
    (a24 : PySem.W.nsIn K mainGlobals "_law_taken" = some (some (.ref f24))) (l24 : K.lookup f24 = some ⟨oc24, od24, .func (PySem.W.fnOf "_law_taken" "_law_taken" (defArgs s__law_taken) (defBody s__law_taken) (defScope s__law_taken) .none kV24 dc24 pm24 an24 cd24 ct24), sl24⟩) (c24 : PySem.W.codeIn K cd24 "_law_taken" = true) (k24 : PySem.W.keepIn K (.ref f24) = true)
    {f25 : Addr} {od25 an25 : Option Addr} {sl25 : Array (Option Value)} {oc25 kV25 dc25 pm25 cd25 ct25 : Value}
    (a25 : PySem.W.nsIn K mainGlobals "_law_pick" = some (some (.ref f25))) (l25 : K.lookup f25 = some ⟨oc25, od25, .func (PySem.W.fnOf "_law_pick" "_law_pick" (defArgs s__law_pick) (defBody s__law_pick) (defScope s__law_pick) .none kV25 dc25 pm25 an25 cd25 ct25), sl25⟩) (c25 : PySem.W.codeIn K cd25 "_law_pick" = true) (k25 : PySem.W.keepIn K (.ref f25) = true)
    {f26 : Addr} {od26 an26 : Option Addr} {sl26 : Array (Option Value)} {oc26 kV26 dc26 pm26 cd26 ct26 : Value}
    (a26 : PySem.W.nsIn K mainGlobals "_law_alike" = some (some (.ref f26))) (l26 : K.lookup f26 = some ⟨oc26, od26, .func (PySem.W.fnOf "_law_alike" "_law_alike" (defArgs s__law_alike) (defBody s__law_alike) (defScope s__law_alike) .none kV26 dc26 pm26 an26 cd26 ct26), sl26⟩) (c26 : PySem.W.codeIn K cd26 "_law_alike" = true) (k26 : PySem.W.keepIn K (.ref f26) = true)
    {f27 : Addr} {od27 an27 : Option Addr} {sl27 : Array (Option Value)} {oc27 kV27 dc27 pm27 cd27 ct27 : Value}
    (a27 : PySem.W.nsIn K mainGlobals "_law_is" = some (some (.ref f27))) (l27 : K.lookup f27 = some ⟨oc27, od27, .func (PySem.W.fnOf "_law_is" "_law_is" (defArgs s__law_is) (defBody s__law_is) (defScope s__law_is) .none kV27 dc27 pm27 an27 cd27 ct27), sl27⟩) (c27 : PySem.W.codeIn K cd27 "_law_is" = true) (k27 : PySem.W.keepIn K (.ref f27) = true)
    {f28 : Addr} {od28 an28 : Option Addr} {sl28 : Array (Option Value)} {oc28 kV28 dc28 pm28 cd28 ct28 : Value}
    (a28 : PySem.W.nsIn K mainGlobals "_law_board" = some (some (.ref f28))) (l28 : K.lookup f28 = some ⟨oc28, od28, .func (PySem.W.fnOf "_law_board" "_law_board" (defArgs s__law_board) (defBody s__law_board) (defScope s__law_board) .none kV28 dc28 pm28 an28 cd28 ct28), sl28⟩) (c28 : PySem.W.codeIn K cd28 "_law_board" = true) (k28 : PySem.W.keepIn K (.ref f28) = true)
    {f29 : Addr} {od29 an29 : Option Addr} {sl29 : Array (Option Value)} {oc29 kV29 dc29 pm29 cd29 ct29 : Value}
    (a29 : PySem.W.nsIn K mainGlobals "_law_rows" = some (some (.ref f29))) (l29 : K.lookup f29 = some ⟨oc29, od29, .func (PySem.W.fnOf "_law_rows" "_law_rows" (defArgs s__law_rows) (defBody s__law_rows) (defScope s__law_rows) .none kV29 dc29 pm29 an29 cd29 ct29), sl29⟩) (c29 : PySem.W.codeIn K cd29 "_law_rows" = true) (k29 : PySem.W.keepIn K (.ref f29) = true)
    {f30 : Addr} {od30 an30 : Option Addr} {sl30 : Array (Option Value)} {oc30 kV30 dc30 pm30 cd30 ct30 : Value}
    (a30 : PySem.W.nsIn K mainGlobals "_law_columns" = some (some (.ref f30))) (l30 : K.lookup f30 = some ⟨oc30, od30, .func (PySem.W.fnOf "_law_columns" "_law_columns" (defArgs s__law_columns) (defBody s__law_columns) (defScope s__law_columns) .none kV30 dc30 pm30 an30 cd30 ct30), sl30⟩) (c30 : PySem.W.codeIn K cd30 "_law_columns" = true) (k30 : PySem.W.keepIn K (.ref f30) = true)
    {f31 : Addr} {od31 an31 : Option Addr} {sl31 : Array (Option Value)} {oc31 kV31 dc31 pm31 cd31 ct31 : Value}
    (a31 : PySem.W.nsIn K mainGlobals "_law_numbers" = some (some (.ref f31))) (l31 : K.lookup f31 = some ⟨oc31, od31, .func (PySem.W.fnOf "_law_numbers" "_law_numbers" (defArgs s__law_numbers) (defBody s__law_numbers) (defScope s__law_numbers) .none kV31 dc31 pm31 an31 cd31 ct31), sl31⟩) (c31 : PySem.W.codeIn K cd31 "_law_numbers" = true) (k31 : PySem.W.keepIn K (.ref f31) = true)
    {f32 : Addr} {od32 an32 : Option Addr} {sl32 : Array (Option Value)} {oc32 kV32 dc32 pm32 cd32 ct32 : Value}
    (a32 : PySem.W.nsIn K mainGlobals "_law_over" = some (some (.ref f32))) (l32 : K.lookup f32 = some ⟨oc32, od32, .func (PySem.W.fnOf "_law_over" "_law_over" (defArgs s__law_over) (defBody s__law_over) (defScope s__law_over) .none kV32 dc32 pm32 an32 cd32 ct32), sl32⟩) (c32 : PySem.W.codeIn K cd32 "_law_over" = true) (k32 : PySem.W.keepIn K (.ref f32) = true)
    {f33 : Addr} {od33 an33 : Option Addr} {sl33 : Array (Option Value)} {oc33 kV33 dc33 pm33 cd33 ct33 : Value}
    (a33 : PySem.W.nsIn K mainGlobals "_law_ready" = some (some (.ref f33))) (l33 : K.lookup f33 = some ⟨oc33, od33, .func (PySem.W.fnOf "_law_ready" "_law_ready" (defArgs s__law_ready) (defBody s__law_ready) (defScope s__law_ready) .none kV33 dc33 pm33 an33 cd33 ct33), sl33⟩) (c33 : PySem.W.codeIn K cd33 "_law_ready" = true) (k33 : PySem.W.keepIn K (.ref f33) = true)
    {f34 : Addr} {od34 an34 : Option Addr} {sl34 : Array (Option Value)} {oc34 kV34 dc34 pm34 cd34 ct34 : Value}
    (a34 : PySem.W.nsIn K mainGlobals "_law_with" = some (some (.ref f34))) (l34 : K.lookup f34 = some ⟨oc34, od34, .func (PySem.W.fnOf "_law_with" "_law_with" (defArgs s__law_with) (defBody s__law_with) (defScope s__law_with) .none kV34 dc34 pm34 an34 cd34 ct34), sl34⟩) (c34 : PySem.W.codeIn K cd34 "_law_with" = true) (k34 : PySem.W.keepIn K (.ref f34) = true)
    {f35 : Addr} {od35 an35 : Option Addr} {sl35 : Array (Option Value)} {oc35 kV35 dc35 pm35 cd35 ct35 : Value}
    (a35 : PySem.W.nsIn K mainGlobals "_law_all" = some (some (.ref f35))) (l35 : K.lookup f35 = some ⟨oc35, od35, .func (PySem.W.fnOf "_law_all" "_law_all" (defArgs s__law_all) (defBody s__law_all) (defScope s__law_all) .none kV35 dc35 pm35 an35 cd35 ct35), sl35⟩) (c35 : PySem.W.codeIn K cd35 "_law_all" = true) (k35 : PySem.W.keepIn K (.ref f35) = true)
    {f36 : Addr} {od36 an36 : Option Addr} {sl36 : Array (Option Value)} {oc36 kV36 dc36 pm36 cd36 ct36 : Value}
    (a36 : PySem.W.nsIn K mainGlobals "_law_drawn" = some (some (.ref f36))) (l36 : K.lookup f36 = some ⟨oc36, od36, .func (PySem.W.fnOf "_law_drawn" "_law_drawn" (defArgs s__law_drawn) (defBody s__law_drawn) (defScope s__law_drawn) .none kV36 dc36 pm36 an36 cd36 ct36), sl36⟩) (c36 : PySem.W.codeIn K cd36 "_law_drawn" = true) (k36 : PySem.W.keepIn K (.ref f36) = true)
    {f37 : Addr} {od37 an37 : Option Addr} {sl37 : Array (Option Value)} {oc37 kV37 dc37 pm37 cd37 ct37 : Value}
    (a37 : PySem.W.nsIn K mainGlobals "_law_lot" = some (some (.ref f37))) (l37 : K.lookup f37 = some ⟨oc37, od37, .func (PySem.W.fnOf "_law_lot" "_law_lot" (defArgs s__law_lot) (defBody s__law_lot) (defScope s__law_lot) .none kV37 dc37 pm37 an37 cd37 ct37), sl37⟩) (c37 : PySem.W.codeIn K cd37 "_law_lot" = true) (k37 : PySem.W.keepIn K (.ref f37) = true)
    {f38 : Addr} {od38 an38 : Option Addr} {sl38 : Array (Option Value)} {oc38 kV38 dc38 pm38 cd38 ct38 : Value}
    (a38 : PySem.W.nsIn K mainGlobals "law" = some (some (.ref f38))) (l38 : K.lookup f38 = some ⟨oc38, od38, .func (PySem.W.fnOf "law" "law" (defArgs s_law) (defBody s_law) (defScope s_law) .none kV38 dc38 pm38 an38 cd38 ct38), sl38⟩) (c38 : PySem.W.codeIn K cd38 "law" = true) (k38 : PySem.W.keepIn K (.ref f38) = true)
    (zisinstance : PySem.W.nsIn K mainGlobals "isinstance" = some none)
    (zlen : PySem.W.nsIn K mainGlobals "len" = some none)
    (zsum : PySem.W.nsIn K mainGlobals "sum" = some none)
    (zall : PySem.W.nsIn K mainGlobals "all" = some none)
    (zany : PySem.W.nsIn K mainGlobals "any" = some none)
    (zmax : PySem.W.nsIn K mainGlobals "max" = some none)
    (zsorted : PySem.W.nsIn K mainGlobals "sorted" = some none)
    (zint : PySem.W.nsIn K mainGlobals "int" = some none)
    (zbool : PySem.W.nsIn K mainGlobals "bool" = some none)
    (ztuple : PySem.W.nsIn K mainGlobals "tuple" = some none)
    (zlist : PySem.W.nsIn K mainGlobals "list" = some none)
    (zstr : PySem.W.nsIn K mainGlobals "str" = some none)
    (zrange : PySem.W.nsIn K mainGlobals "range" = some none)
    (zzip : PySem.W.nsIn K mainGlobals "zip" = some none)
    (zenumerate : PySem.W.nsIn K mainGlobals "enumerate" = some none)
    {tS tV : Tok} (zSide : PySem.W.nsIn K mainGlobals "MOST_SIDE" = some (some (.int 6 tS))) (zVal : PySem.W.nsIn K mainGlobals "MOST_VALUE" = some (some (.int 1000 tV))) :
    ∃ fd : FuncData, (∀ (s : Shared) (v : Value), BindsTo s fd ⟨[v], []⟩ [("_law_script", v)]) ∧ ∀ base : Heap, K.In base → base.Ns mainGlobals mg → FnOk l.prog w K mg base CX0 10 fa fd ["_law_script"] (sp_law K) := by
  have e := hfa.symm.trans (PySem.W.mg_of X G a38)
  cases e
  have d0 : Dn K mg "is_int" s_is_int ["value"] f0 _ := ⟨fun_mk (st := s_is_int) l0 c0 k0, PySem.W.mg_of X G a0, (fun_mk (st := s_is_int) l0 c0 k0).binds (ps := ["value"]) fun _ _ _ _ _ _ us hl => match us, hl with | [_], _ => rfl⟩
  have d1 : Dn K mg "is_from" s_is_from ["value", "least", "most"] f1 _ := ⟨fun_mk (st := s_is_from) l1 c1 k1, PySem.W.mg_of X G a1, (fun_mk (st := s_is_from) l1 c1 k1).binds (ps := ["value", "least", "most"]) fun _ _ _ _ _ _ us hl => match us, hl with | [_, _, _], _ => rfl⟩
  have d2 : Dn K mg "is_place" s_is_place ["value"] f2 _ := ⟨fun_mk (st := s_is_place) l2 c2 k2, PySem.W.mg_of X G a2, (fun_mk (st := s_is_place) l2 c2 k2).binds (ps := ["value"]) fun _ _ _ _ _ _ us hl => match us, hl with | [_], _ => rfl⟩
  have d3 : Dn K mg "need_board" s_need_board ["value"] f3 _ := ⟨fun_mk (st := s_need_board) l3 c3 k3, PySem.W.mg_of X G a3, (fun_mk (st := s_need_board) l3 c3 k3).binds (ps := ["value"]) fun _ _ _ _ _ _ us hl => match us, hl with | [_], _ => rfl⟩
  have d4 : Dn K mg "sides" s_sides ["board"] f4 _ := ⟨fun_mk (st := s_sides) l4 c4 k4, PySem.W.mg_of X G a4, (fun_mk (st := s_sides) l4 c4 k4).binds (ps := ["board"]) fun _ _ _ _ _ _ us hl => match us, hl with | [_], _ => rfl⟩
  have d5 : Dn K mg "lines_of" s_lines_of ["board"] f5 _ := ⟨fun_mk (st := s_lines_of) l5 c5 k5, PySem.W.mg_of X G a5, (fun_mk (st := s_lines_of) l5 c5 k5).binds (ps := ["board"]) fun _ _ _ _ _ _ us hl => match us, hl with | [_], _ => rfl⟩
  have d6 : Dn K mg "is_lot" s_is_lot ["board", "value"] f6 _ := ⟨fun_mk (st := s_is_lot) l6 c6 k6, PySem.W.mg_of X G a6, (fun_mk (st := s_is_lot) l6 c6 k6).binds (ps := ["board", "value"]) fun _ _ _ _ _ _ us hl => match us, hl with | [_, _], _ => rfl⟩
  have d7 : Dn K mg "need_lot" s_need_lot ["board", "value"] f7 _ := ⟨fun_mk (st := s_need_lot) l7 c7 k7, PySem.W.mg_of X G a7, (fun_mk (st := s_need_lot) l7 c7 k7).binds (ps := ["board", "value"]) fun _ _ _ _ _ _ us hl => match us, hl with | [_, _], _ => rfl⟩
  have d8 : Dn K mg "left_of" s_left_of ["board", "lot"] f8 _ := ⟨fun_mk (st := s_left_of) l8 c8 k8, PySem.W.mg_of X G a8, (fun_mk (st := s_left_of) l8 c8 k8).binds (ps := ["board", "lot"]) fun _ _ _ _ _ _ us hl => match us, hl with | [_, _], _ => rfl⟩
  have d9 : Dn K mg "numbers" s_numbers ["board", "lot", "line"] f9 _ := ⟨fun_mk (st := s_numbers) l9 c9 k9, PySem.W.mg_of X G a9, (fun_mk (st := s_numbers) l9 c9 k9).binds (ps := ["board", "lot", "line"]) fun _ _ _ _ _ _ us hl => match us, hl with | [_, _, _], _ => rfl⟩
  have d10 : Dn K mg "same_side" s_same_side ["board", "one", "other"] f10 _ := ⟨fun_mk (st := s_same_side) l10 c10 k10, PySem.W.mg_of X G a10, (fun_mk (st := s_same_side) l10 c10 k10).binds (ps := ["board", "one", "other"]) fun _ _ _ _ _ _ us hl => match us, hl with | [_, _, _], _ => rfl⟩
  have d11 : Dn K mg "is_greater" s_is_greater ["board", "lot", "line", "other"] f11 _ := ⟨fun_mk (st := s_is_greater) l11 c11 k11, PySem.W.mg_of X G a11, (fun_mk (st := s_is_greater) l11 c11 k11).binds (ps := ["board", "lot", "line", "other"]) fun _ _ _ _ _ _ us hl => match us, hl with | [_, _, _, _], _ => rfl⟩
  have d12 : Dn K mg "can_fall" s_can_fall ["board", "lot", "line"] f12 _ := ⟨fun_mk (st := s_can_fall) l12 c12 k12, PySem.W.mg_of X G a12, (fun_mk (st := s_can_fall) l12 c12 k12).binds (ps := ["board", "lot", "line"]) fun _ _ _ _ _ _ us hl => match us, hl with | [_, _, _], _ => rfl⟩
  have d13 : Dn K mg "with_line" s_with_line ["lot", "line"] f13 _ := ⟨fun_mk (st := s_with_line) l13 c13 k13, PySem.W.mg_of X G a13, (fun_mk (st := s_with_line) l13 c13 k13).binds (ps := ["lot", "line"]) fun _ _ _ _ _ _ us hl => match us, hl with | [_, _], _ => rfl⟩
  have d14 : Dn K mg "run" s_run ["board", "strikes"] f14 _ := ⟨fun_mk (st := s_run) l14 c14 k14, PySem.W.mg_of X G a14, (fun_mk (st := s_run) l14 c14 k14).binds (ps := ["board", "strikes"]) fun _ _ _ _ _ _ us hl => match us, hl with | [_, _], _ => rfl⟩
  have d15 : Dn K mg "need_strikes" s_need_strikes ["board", "value"] f15 _ := ⟨fun_mk (st := s_need_strikes) l15 c15 k15, PySem.W.mg_of X G a15, (fun_mk (st := s_need_strikes) l15 c15 k15).binds (ps := ["board", "value"]) fun _ _ _ _ _ _ us hl => match us, hl with | [_, _], _ => rfl⟩
  have d16 : Dn K mg "play" s_play ["board", "strikes"] f16 _ := ⟨fun_mk (st := s_play) l16 c16 k16, PySem.W.mg_of X G a16, (fun_mk (st := s_play) l16 c16 k16).binds (ps := ["board", "strikes"]) fun _ _ _ _ _ _ us hl => match us, hl with | [_, _], _ => rfl⟩
  have d17 : Dn K mg "closure" s_closure ["board", "within"] f17 _ := ⟨fun_mk (st := s_closure) l17 c17 k17, PySem.W.mg_of X G a17, (fun_mk (st := s_closure) l17 c17 k17).binds (ps := ["board", "within"]) fun _ _ _ _ _ _ us hl => match us, hl with | [_, _], _ => rfl⟩
  have d18 : Dn K mg "is_reached" s_is_reached ["board", "lot"] f18 _ := ⟨fun_mk (st := s_is_reached) l18 c18 k18, PySem.W.mg_of X G a18, (fun_mk (st := s_is_reached) l18 c18 k18).binds (ps := ["board", "lot"]) fun _ _ _ _ _ _ us hl => match us, hl with | [_, _], _ => rfl⟩
  have d19 : Dn K mg "comes" s_comes ["board", "lot"] f19 _ := ⟨fun_mk (st := s_comes) l19 c19 k19, PySem.W.mg_of X G a19, (fun_mk (st := s_comes) l19 c19 k19).binds (ps := ["board", "lot"]) fun _ _ _ _ _ _ us hl => match us, hl with | [_, _], _ => rfl⟩
  have d20 : Dn K mg "greatest_within" s_greatest_within ["board", "lot"] f20 _ := ⟨fun_mk (st := s_greatest_within) l20 c20 k20, PySem.W.mg_of X G a20, (fun_mk (st := s_greatest_within) l20 c20 k20).binds (ps := ["board", "lot"]) fun _ _ _ _ _ _ us hl => match us, hl with | [_, _], _ => rfl⟩
  have d21 : Dn K mg "stuck" s_stuck ["board", "lot"] f21 _ := ⟨fun_mk (st := s_stuck) l21 c21 k21, PySem.W.mg_of X G a21, (fun_mk (st := s_stuck) l21 c21 k21).binds (ps := ["board", "lot"]) fun _ _ _ _ _ _ us hl => match us, hl with | [_, _], _ => rfl⟩
  have d22 : Dn K mg "some_strikes" s_some_strikes ["board", "lot"] f22 _ := ⟨fun_mk (st := s_some_strikes) l22 c22 k22, PySem.W.mg_of X G a22, (fun_mk (st := s_some_strikes) l22 c22 k22).binds (ps := ["board", "lot"]) fun _ _ _ _ _ _ us hl => match us, hl with | [_, _], _ => rfl⟩
  have d23 : Dn K mg "shows_strikes" s_shows_strikes ["board", "lot", "value"] f23 _ := ⟨fun_mk (st := s_shows_strikes) l23 c23 k23, PySem.W.mg_of X G a23, (fun_mk (st := s_shows_strikes) l23 c23 k23).binds (ps := ["board", "lot", "value"]) fun _ _ _ _ _ _ us hl => match us, hl with | [_, _, _], _ => rfl⟩
  have d24 : Dn K mg "_law_taken" s__law_taken ["_law_row", "_law_many"] f24 _ := ⟨fun_mk (st := s__law_taken) l24 c24 k24, PySem.W.mg_of X G a24, (fun_mk (st := s__law_taken) l24 c24 k24).binds (ps := ["_law_row", "_law_many"]) fun _ _ _ _ _ _ us hl => match us, hl with | [_, _], _ => rfl⟩
  have d25 : Dn K mg "_law_pick" s__law_pick ["_law_row", "_law_things"] f25 _ := ⟨fun_mk (st := s__law_pick) l25 c25 k25, PySem.W.mg_of X G a25, (fun_mk (st := s__law_pick) l25 c25 k25).binds (ps := ["_law_row", "_law_things"]) fun _ _ _ _ _ _ us hl => match us, hl with | [_, _], _ => rfl⟩
  have d26 : Dn K mg "_law_alike" s__law_alike ["_law_found", "_law_due"] f26 _ := ⟨fun_mk (st := s__law_alike) l26 c26 k26, PySem.W.mg_of X G a26, (fun_mk (st := s__law_alike) l26 c26 k26).binds (ps := ["_law_found", "_law_due"]) fun _ _ _ _ _ _ us hl => match us, hl with | [_, _], _ => rfl⟩
  have d27 : Dn K mg "_law_is" s__law_is ["_law_found", "_law_due"] f27 _ := ⟨fun_mk (st := s__law_is) l27 c27 k27, PySem.W.mg_of X G a27, (fun_mk (st := s__law_is) l27 c27 k27).binds (ps := ["_law_found", "_law_due"]) fun _ _ _ _ _ _ us hl => match us, hl with | [_, _], _ => rfl⟩
  have d28 : Dn K mg "_law_board" s__law_board ["_law_row", "_law_rows_here", "_law_columns_here", "_law_many"] f28 _ := ⟨fun_mk (st := s__law_board) l28 c28 k28, PySem.W.mg_of X G a28, (fun_mk (st := s__law_board) l28 c28 k28).binds (ps := ["_law_row", "_law_rows_here", "_law_columns_here", "_law_many"]) fun _ _ _ _ _ _ us hl => match us, hl with | [_, _, _, _], _ => rfl⟩
  have d29 : Dn K mg "_law_rows" s__law_rows ["_law_board_here", "_law_lot_here"] f29 _ := ⟨fun_mk (st := s__law_rows) l29 c29 k29, PySem.W.mg_of X G a29, (fun_mk (st := s__law_rows) l29 c29 k29).binds (ps := ["_law_board_here", "_law_lot_here"]) fun _ _ _ _ _ _ us hl => match us, hl with | [_, _], _ => rfl⟩
  have d30 : Dn K mg "_law_columns" s__law_columns ["_law_board_here", "_law_lot_here"] f30 _ := ⟨fun_mk (st := s__law_columns) l30 c30 k30, PySem.W.mg_of X G a30, (fun_mk (st := s__law_columns) l30 c30 k30).binds (ps := ["_law_board_here", "_law_lot_here"]) fun _ _ _ _ _ _ us hl => match us, hl with | [_, _], _ => rfl⟩
  have d31 : Dn K mg "_law_numbers" s__law_numbers ["_law_board_here", "_law_lot_here", "_law_line"] f31 _ := ⟨fun_mk (st := s__law_numbers) l31 c31 k31, PySem.W.mg_of X G a31, (fun_mk (st := s__law_numbers) l31 c31 k31).binds (ps := ["_law_board_here", "_law_lot_here", "_law_line"]) fun _ _ _ _ _ _ us hl => match us, hl with | [_, _, _], _ => rfl⟩
  have d32 : Dn K mg "_law_over" s__law_over ["_law_board_here", "_law_lot_here", "_law_line"] f32 _ := ⟨fun_mk (st := s__law_over) l32 c32 k32, PySem.W.mg_of X G a32, (fun_mk (st := s__law_over) l32 c32 k32).binds (ps := ["_law_board_here", "_law_lot_here", "_law_line"]) fun _ _ _ _ _ _ us hl => match us, hl with | [_, _, _], _ => rfl⟩
  have d33 : Dn K mg "_law_ready" s__law_ready ["_law_board_here", "_law_lot_here"] f33 _ := ⟨fun_mk (st := s__law_ready) l33 c33 k33, PySem.W.mg_of X G a33, (fun_mk (st := s__law_ready) l33 c33 k33).binds (ps := ["_law_board_here", "_law_lot_here"]) fun _ _ _ _ _ _ us hl => match us, hl with | [_, _], _ => rfl⟩
  have d34 : Dn K mg "_law_with" s__law_with ["_law_lot_here", "_law_line"] f34 _ := ⟨fun_mk (st := s__law_with) l34 c34 k34, PySem.W.mg_of X G a34, (fun_mk (st := s__law_with) l34 c34 k34).binds (ps := ["_law_lot_here", "_law_line"]) fun _ _ _ _ _ _ us hl => match us, hl with | [_, _], _ => rfl⟩
  have d35 : Dn K mg "_law_all" s__law_all ["_law_board_here"] f35 _ := ⟨fun_mk (st := s__law_all) l35 c35 k35, PySem.W.mg_of X G a35, (fun_mk (st := s__law_all) l35 c35 k35).binds (ps := ["_law_board_here"]) fun _ _ _ _ _ _ us hl => match us, hl with | [_], _ => rfl⟩
  have d36 : Dn K mg "_law_drawn" s__law_drawn ["_law_row", "_law_board_here", "_law_many"] f36 _ := ⟨fun_mk (st := s__law_drawn) l36 c36 k36, PySem.W.mg_of X G a36, (fun_mk (st := s__law_drawn) l36 c36 k36).binds (ps := ["_law_row", "_law_board_here", "_law_many"]) fun _ _ _ _ _ _ us hl => match us, hl with | [_, _, _], _ => rfl⟩
  have d37 : Dn K mg "_law_lot" s__law_lot ["_law_row", "_law_board_here"] f37 _ := ⟨fun_mk (st := s__law_lot) l37 c37 k37, PySem.W.mg_of X G a37, (fun_mk (st := s__law_lot) l37 c37 k37).binds (ps := ["_law_row", "_law_board_here"]) fun _ _ _ _ _ _ us hl => match us, hl with | [_, _], _ => rfl⟩
  have d38 : Dn K mg "law" s_law ["_law_script"] fa _ := ⟨fun_mk (st := s_law) l38 c38 k38, PySem.W.mg_of X G a38, (fun_mk (st := s_law) l38 c38 k38).binds (ps := ["_law_script"]) fun _ _ _ _ _ _ us hl => match us, hl with | [_], _ => rfl⟩
  have T : Txt K mg := ⟨PySem.W.mg_none_of X G zisinstance, PySem.W.mg_none_of X G zlen, PySem.W.mg_none_of X G zsum, PySem.W.mg_none_of X G zall, PySem.W.mg_none_of X G zany, PySem.W.mg_none_of X G zmax, PySem.W.mg_none_of X G zsorted, PySem.W.mg_none_of X G zint, PySem.W.mg_none_of X G zbool, PySem.W.mg_none_of X G ztuple, PySem.W.mg_none_of X G zlist, PySem.W.mg_none_of X G zstr, PySem.W.mg_none_of X G zrange, PySem.W.mg_none_of X G zzip, PySem.W.mg_none_of X G zenumerate, ⟨tS, PySem.W.mg_of X G zSide⟩, ⟨tV, PySem.W.mg_of X G zVal⟩, ⟨_, _, d0⟩, ⟨_, _, d1⟩, ⟨_, _, d2⟩, ⟨_, _, d3⟩, ⟨_, _, d4⟩, ⟨_, _, d5⟩, ⟨_, _, d6⟩, ⟨_, _, d7⟩, ⟨_, _, d8⟩, ⟨_, _, d9⟩, ⟨_, _, d10⟩, ⟨_, _, d11⟩, ⟨_, _, d12⟩, ⟨_, _, d13⟩, ⟨_, _, d14⟩, ⟨_, _, d15⟩, ⟨_, _, d16⟩, ⟨_, _, d17⟩, ⟨_, _, d18⟩, ⟨_, _, d19⟩, ⟨_, _, d20⟩, ⟨_, _, d21⟩, ⟨_, _, d22⟩, ⟨_, _, d23⟩, ⟨_, _, d24⟩, ⟨_, _, d25⟩, ⟨_, _, d26⟩, ⟨_, _, d27⟩, ⟨_, _, d28⟩, ⟨_, _, d29⟩, ⟨_, _, d30⟩, ⟨_, _, d31⟩, ⟨_, _, d32⟩, ⟨_, _, d33⟩, ⟨_, _, d34⟩, ⟨_, _, d35⟩, ⟨_, _, d36⟩, ⟨_, _, d37⟩⟩
  exact ⟨_, fun s v => .of_eq rfl, fun base _ _ => ok_law T d38⟩
end K1
open PySem PySem.W PyProof.Rows
set_option maxHeartbeats 0 in
theorem PySem.Challenge.cw_struckboards_k01_whole_coming_holds : PySem.Challenge.rw_struckboards_k01_whole_coming.Holds := by
  w_on; o_law; k_head; (case hw => w_witness2)
  k_fill
  refine L2.walk_of (l := PySem.Challenge.rw_struckboards_k01_whole_coming) (n := 63) (k := 10) (x := "_law_script") (CX := fun _ => L2.CX0) (sp := fun w => K1.sp_law _) rfl (by decide) rfl ⟨rfl, by decide, by decide⟩ (fun w h Y => PySem.W.kIn_of Y) ?F (fun _ _ a ns hl _ hS => ⟨a, ns, rfl, hS, hl, fun _ => rfl⟩) (fun _ _ _ _ _ h => h)
  case F =>
    intro w mg fa h KX G hmg
    refine' K1.all_mk KX G hmg ?a0 ?l0 ?c0 ?k0 ?a1 ?l1 ?c1 ?k1 ?a2 ?l2 ?c2 ?k2 ?a3 ?l3 ?c3 ?k3 ?a4 ?l4 ?c4 ?k4 ?a5 ?l5 ?c5 ?k5 ?a6 ?l6 ?c6 ?k6 ?a7 ?l7 ?c7 ?k7 ?a8 ?l8 ?c8 ?k8 ?a9 ?l9 ?c9 ?k9 ?a10 ?l10 ?c10 ?k10 ?a11 ?l11 ?c11 ?k11 ?a12 ?l12 ?c12 ?k12 ?a13 ?l13 ?c13 ?k13 ?a14 ?l14 ?c14 ?k14 ?a15 ?l15 ?c15 ?k15 ?a16 ?l16 ?c16 ?k16 ?a17 ?l17 ?c17 ?k17 ?a18 ?l18 ?c18 ?k18 ?a19 ?l19 ?c19 ?k19 ?a20 ?l20 ?c20 ?k20 ?a21 ?l21 ?c21 ?k21 ?a22 ?l22 ?c22 ?k22 ?a23 ?l23 ?c23 ?k23 ?a24 ?l24 ?c24 ?k24 ?a25 ?l25 ?c25 ?k25 ?a26 ?l26 ?c26 ?k26 ?a27 ?l27 ?c27 ?k27 ?a28 ?l28 ?c28 ?k28 ?a29 ?l29 ?c29 ?k29 ?a30 ?l30 ?c30 ?k30 ?a31 ?l31 ?c31 ?k31 ?a32 ?l32 ?c32 ?k32 ?a33 ?l33 ?c33 ?k33 ?a34 ?l34 ?c34 ?k34 ?a35 ?l35 ?c35 ?k35 ?a36 ?l36 ?c36 ?k36 ?a37 ?l37 ?c37 ?k37 ?a38 ?l38 ?c38 ?k38 ?zisinstance ?zlen ?zsum ?zall ?zany ?zmax ?zsorted ?zint ?zbool ?ztuple ?zlist ?zstr ?zrange ?zzip ?zenumerate ?zSide ?zVal
    (case a0 => k_is); (case l0 => k_is); (case c0 => k_is); (case k0 => k_is); (case a1 => k_is); (case l1 => k_is); (case c1 => k_is); (case k1 => k_is)
    (case a2 => k_is); (case l2 => k_is); (case c2 => k_is); (case k2 => k_is); (case a3 => k_is); (case l3 => k_is); (case c3 => k_is); (case k3 => k_is)
    (case a4 => k_is); (case l4 => k_is); (case c4 => k_is); (case k4 => k_is); (case a5 => k_is); (case l5 => k_is); (case c5 => k_is); (case k5 => k_is)
    (case a6 => k_is); (case l6 => k_is); (case c6 => k_is); (case k6 => k_is); (case a7 => k_is); (case l7 => k_is); (case c7 => k_is); (case k7 => k_is)
    (case a8 => k_is); (case l8 => k_is); (case c8 => k_is); (case k8 => k_is); (case a9 => k_is); (case l9 => k_is); (case c9 => k_is); (case k9 => k_is)
    (case a10 => k_is); (case l10 => k_is); (case c10 => k_is); (case k10 => k_is); (case a11 => k_is); (case l11 => k_is); (case c11 => k_is); (case k11 => k_is)
    (case a12 => k_is); (case l12 => k_is); (case c12 => k_is); (case k12 => k_is); (case a13 => k_is); (case l13 => k_is); (case c13 => k_is); (case k13 => k_is)
    (case a14 => k_is); (case l14 => k_is); (case c14 => k_is); (case k14 => k_is); (case a15 => k_is); (case l15 => k_is); (case c15 => k_is); (case k15 => k_is)
    (case a16 => k_is); (case l16 => k_is); (case c16 => k_is); (case k16 => k_is); (case a17 => k_is); (case l17 => k_is); (case c17 => k_is); (case k17 => k_is)
    (case a18 => k_is); (case l18 => k_is); (case c18 => k_is); (case k18 => k_is); (case a19 => k_is); (case l19 => k_is); (case c19 => k_is); (case k19 => k_is)
    (case a20 => k_is); (case l20 => k_is); (case c20 => k_is); (case k20 => k_is); (case a21 => k_is); (case l21 => k_is); (case c21 => k_is); (case k21 => k_is)
    (case a22 => k_is); (case l22 => k_is); (case c22 => k_is); (case k22 => k_is); (case a23 => k_is); (case l23 => k_is); (case c23 => k_is); (case k23 => k_is)
    (case a24 => k_is); (case l24 => k_is); (case c24 => k_is); (case k24 => k_is); (case a25 => k_is); (case l25 => k_is); (case c25 => k_is); (case k25 => k_is)
    (case a26 => k_is); (case l26 => k_is); (case c26 => k_is); (case k26 => k_is); (case a27 => k_is); (case l27 => k_is); (case c27 => k_is); (case k27 => k_is)
    (case a28 => k_is); (case l28 => k_is); (case c28 => k_is); (case k28 => k_is); (case a29 => k_is); (case l29 => k_is); (case c29 => k_is); (case k29 => k_is)
    (case a30 => k_is); (case l30 => k_is); (case c30 => k_is); (case k30 => k_is); (case a31 => k_is); (case l31 => k_is); (case c31 => k_is); (case k31 => k_is)
    (case a32 => k_is); (case l32 => k_is); (case c32 => k_is); (case k32 => k_is); (case a33 => k_is); (case l33 => k_is); (case c33 => k_is); (case k33 => k_is)
    (case a34 => k_is); (case l34 => k_is); (case c34 => k_is); (case k34 => k_is); (case a35 => k_is); (case l35 => k_is); (case c35 => k_is); (case k35 => k_is)
    (case a36 => k_is); (case l36 => k_is); (case c36 => k_is); (case k36 => k_is); (case a37 => k_is); (case l37 => k_is); (case c37 => k_is); (case k37 => k_is)
    (case a38 => k_is); (case l38 => k_is); (case c38 => k_is); (case k38 => k_is); (case zisinstance => k_is); (case zlen => k_is); (case zsum => k_is); (case zall => k_is)
    (case zany => k_is); (case zmax => k_is); (case zsorted => k_is); (case zint => k_is); (case zbool => k_is); (case ztuple => k_is); (case zlist => k_is); (case zstr => k_is)
    (case zrange => k_is); (case zzip => k_is); (case zenumerate => k_is); (case zSide => k_is); (case zVal => k_is)
