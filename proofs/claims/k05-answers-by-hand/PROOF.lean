import PyProof.Rows.All
import Wide.All
import OpenK.AllK
import Wide.FinOn
import HandS.ForMost
import HandS.ForExc
import HandS.EndBits
import HandS.IsInst
import HandS.Style
import HandS.SortInts
import HandS.SortRule
import HandS.WideBits
import HandS.Zip
import HandS.SetFor
import HandS.Strs
import HandS.ExcIs
import HandS.Evl
import PySem.Challenge.RW_weightset_k05_answers_by_hand
set_option Elab.async false
set_option linter.all false
set_option maxRecDepth 100000
set_option maxHeartbeats 4000000
namespace Wt
/-! plain mathematics: sorting, the first gap -/
def ins (a : Int) : List Int → List Int
  | [] => [a]
  | b :: r => if a ≤ b then a :: b :: r else b :: ins a r
def srt : List Int → List Int
  | [] => []
  | a :: r => ins a (srt r)
theorem ins_perm (a : Int) : ∀ l : List Int, (ins a l).Perm (a :: l)
  | [] => List.Perm.refl _
  | b :: r => by
    unfold ins
    split
    · exact List.Perm.refl _
    · exact ((ins_perm a r).cons b).trans (List.Perm.swap a b r)
theorem srt_perm : ∀ l : List Int, (srt l).Perm l
  | [] => List.Perm.refl _
  | a :: r => (ins_perm a (srt r)).trans ((srt_perm r).cons a)
theorem ins_pw (a : Int) : ∀ {l : List Int}, l.Pairwise (· ≤ ·) → (ins a l).Pairwise (· ≤ ·)
  | [], _ => List.pairwise_cons.mpr ⟨(fun _ h => nomatch h), List.Pairwise.nil⟩
  | b :: r, h => by
    have ⟨h1, h2⟩ := List.pairwise_cons.mp h
    unfold ins
    split
    · rename_i hab
      refine List.pairwise_cons.mpr ⟨fun x hx => ?_, h⟩
      rcases List.mem_cons.mp hx with e | e
      · rw [e]; exact hab
      · exact Int.le_trans hab (h1 x e)
    · rename_i hab
      refine List.pairwise_cons.mpr ⟨fun x hx => ?_, ins_pw a h2⟩
      rcases List.mem_cons.mp ((ins_perm a r).mem_iff.mp hx) with e | e
      · rw [e]; omega
      · exact h1 x e
theorem srt_pw : ∀ l : List Int, (srt l).Pairwise (· ≤ ·)
  | [] => List.Pairwise.nil
  | a :: r => ins_pw a (srt_pw r)
theorem srt_uniq {l m : List Int} (p : l.Perm m) (s : l.Pairwise (· ≤ ·)) : l = srt m :=
  List.Perm.eq_of_pairwise (le := (· ≤ ·)) (fun a b _ _ h1 h2 => Int.le_antisymm h1 h2) s (srt_pw m) (p.trans (srt_perm m).symm)
theorem srt_congr {l m : List Int} (p : l.Perm m) : srt l = srt m := srt_uniq ((srt_perm l).trans p) (srt_pw l)
theorem srt_length (l : List Int) : (srt l).length = l.length := (srt_perm l).length_eq
theorem perm_sum {l m : List Int} (p : l.Perm m) : l.sum = m.sum := by
  induction p with
  | nil => rfl
  | cons x _ ih => simp only [List.sum_cons, ih]
  | swap x y l => simp only [List.sum_cons]; omega
  | trans _ _ ih1 ih2 => exact ih1.trans ih2
def Pos (l : List Int) : Prop := ∀ w ∈ l, 1 ≤ w
theorem Pos.perm {l m : List Int} (h : Pos l) (p : m.Perm l) : Pos m := fun w hw => h w (p.mem_iff.mp hw)
theorem Pos.cons {a : Int} {l : List Int} (h : Pos (a :: l)) : 1 ≤ a ∧ Pos l := ⟨h a List.mem_cons_self, fun w hw => h w (List.mem_cons_of_mem _ hw)⟩
theorem Pos.append {l m : List Int} (h : Pos l) (k : Pos m) : Pos (l ++ m) := fun w hw => (List.mem_append.mp hw).elim (h w) (k w)
theorem Pos.one {a : Int} (h : 1 ≤ a) : Pos [a] := fun w hw => by rw [List.mem_singleton.mp hw]; exact h
theorem Pos.nil : Pos [] := fun _ h => nomatch h
theorem Pos.sub {l m : List Int} (h : Pos l) (k : ∀ x ∈ m, x ∈ l) : Pos m := fun w hw => h w (k w hw)
theorem pos_sum {l : List Int} (h : Pos l) : 0 ≤ l.sum := by
  induction l with
  | nil => exact Int.le_refl _
  | cons a r ih =>
    have ⟨h1, h2⟩ := h.cons
    have := ih h2
    rw [List.sum_cons]; omega
/-- all weights up to x together -/
def sle (x : Int) (l : List Int) : Int := (l.filter fun w => decide (w ≤ x)).sum
def slt (x : Int) (l : List Int) : Int := (l.filter fun w => decide (w < x)).sum
theorem sle_nil (x : Int) : sle x [] = 0 := rfl
theorem sle_cons (x a : Int) (l : List Int) : sle x (a :: l) = (if a ≤ x then a else 0) + sle x l := by
  unfold sle
  by_cases h : a ≤ x
  · rw [List.filter_cons_of_pos (by simpa using h), if_pos h, List.sum_cons]
  · rw [List.filter_cons_of_neg (by simpa using h), if_neg h]; omega
theorem slt_cons (x a : Int) (l : List Int) : slt x (a :: l) = (if a < x then a else 0) + slt x l := by
  unfold slt
  by_cases h : a < x
  · rw [List.filter_cons_of_pos (by simpa using h), if_pos h, List.sum_cons]
  · rw [List.filter_cons_of_neg (by simpa using h), if_neg h]; omega
theorem sle_append (x : Int) (l m : List Int) : sle x (l ++ m) = sle x l + sle x m := by
  unfold sle
  rw [List.filter_append, List.sum_append_int]
theorem sle_perm (x : Int) {l m : List Int} (p : l.Perm m) : sle x l = sle x m := perm_sum (p.filter _)
theorem slt_perm (x : Int) {l m : List Int} (p : l.Perm m) : slt x l = slt x m := perm_sum (p.filter _)
theorem sle_nonneg {l : List Int} (h : Pos l) (x : Int) : 0 ≤ sle x l := pos_sum (h.sub fun _ hw => (List.mem_filter.mp hw).1)
theorem sle_one (x a : Int) : sle x [a] = if a ≤ x then a else 0 := by rw [sle_cons, sle_nil]; omega
theorem sle_mem {l : List Int} (h : Pos l) {x a : Int} (ha : a ∈ l) (hx : a ≤ x) : a ≤ sle x l := by
  induction l with
  | nil => cases ha
  | cons b r ih =>
    have ⟨h1, h2⟩ := h.cons
    have hn := sle_nonneg h2 x
    rw [sle_cons]
    rcases List.mem_cons.mp ha with e | e
    · subst e; rw [if_pos hx]; omega
    · have := ih h2 e
      split <;> omega
theorem sle_mono {l : List Int} (h : Pos l) {x y : Int} (hxy : x ≤ y) : sle x l ≤ sle y l := by
  induction l with
  | nil => exact Int.le_refl _
  | cons b r ih =>
    have ⟨h1, h2⟩ := h.cons
    have := ih h2
    rw [sle_cons, sle_cons]
    split <;> split <;> omega
theorem slt_sle {l : List Int} {x : Int} (h : x ∉ l) : slt x l = sle x l := by
  induction l with
  | nil => rfl
  | cons b r ih =>
    have hb : x ≠ b := fun e => h (by rw [e]; exact List.mem_cons_self)
    have hr : x ∉ r := fun e => h (List.mem_cons_of_mem _ e)
    rw [sle_cons, slt_cons, ih hr]
    by_cases q : b ≤ x
    · rw [if_pos q, if_pos (by omega)]
    · rw [if_neg q, if_neg (by omega)]
/-! the two readings of the first gap -/
def fstep (f w : Int) : Int := if w ≤ f then f + w else f
def fm (ns : List Int) : Int := (srt ns).foldl fstep 1
def gp : Int → List Int → Int
  | W, [] => W + 1
  | W, w :: r => if w > W + 1 then W + 1 else gp (W + w) r
def lg (ns : List Int) : Int := gp 0 (srt ns)
theorem fold_stay : ∀ {l : List Int} {f : Int}, (∀ x ∈ l, f < x) → l.foldl fstep f = f
  | [], _, _ => rfl
  | a :: r, f, h => by
    have ha := h a List.mem_cons_self
    show r.foldl fstep (fstep f a) = f
    rw [show fstep f a = f from if_neg (by omega)]
    exact fold_stay fun x hx => h x (List.mem_cons_of_mem _ hx)
theorem fold_gp : ∀ {l : List Int} {W : Int}, l.Pairwise (· ≤ ·) → l.foldl fstep (W + 1) = gp W l
  | [], _, _ => rfl
  | a :: r, W, h => by
    have ⟨h1, h2⟩ := List.pairwise_cons.mp h
    show r.foldl fstep (fstep (W + 1) a) = if a > W + 1 then W + 1 else gp (W + a) r
    by_cases q : a > W + 1
    · rw [if_pos q, show fstep (W + 1) a = W + 1 from if_neg (by omega)]
      exact fold_stay fun x hx => by have := h1 x hx; omega
    · rw [if_neg q, show fstep (W + 1) a = W + a + 1 from (if_pos (by omega)).trans (by omega)]
      exact fold_gp h2
theorem fm_lg (ns : List Int) : fm ns = lg ns := fold_gp (W := 0) (srt_pw ns)
theorem fm_perm {l m : List Int} (p : l.Perm m) : fm l = fm m := by unfold fm; rw [srt_congr p]
theorem gp_ge : ∀ {l : List Int} {W : Int}, Pos l → W + 1 ≤ gp W l
  | [], _, _ => Int.le_refl _
  | a :: r, W, h => by
    have ⟨h1, h2⟩ := h.cons
    show W + 1 ≤ if a > W + 1 then W + 1 else gp (W + a) r
    split
    · exact Int.le_refl _
    · have := gp_ge (W := W + a) h2; omega
theorem gp_sle : ∀ {l : List Int} {W : Int}, Pos l → l.Pairwise (· ≤ ·) → 0 ≤ W → sle (gp W l) l + W = gp W l - 1
  | [], W, _, _, _ => by show (0 : Int) + W = W + 1 - 1; omega
  | a :: r, W, h, s, hW => by
    have ⟨h1, h2⟩ := h.cons
    have ⟨s1, s2⟩ := List.pairwise_cons.mp s
    have hg : gp W (a :: r) = if a > W + 1 then W + 1 else gp (W + a) r := rfl
    by_cases q : a > W + 1
    · rw [if_pos q] at hg
      rw [hg]
      have : sle (W + 1) (a :: r) = 0 := by
        unfold sle
        rw [List.filter_eq_nil_iff.mpr]
        · rfl
        · intro x hx
          rcases List.mem_cons.mp hx with e | e
          · subst e; simp; omega
          · have := s1 x e; simp; omega
      omega
    · rw [if_neg q] at hg
      rw [hg, sle_cons]
      have ih := gp_sle (W := W + a) h2 s2 (by omega)
      have hge := gp_ge (W := W + a) h2
      rw [if_pos (by omega)]
      omega
theorem gp_below : ∀ {l : List Int} {W x : Int}, Pos l → W + 1 ≤ x → x < gp W l → x ≤ sle x l + W
  | [], W, x, _, h1, h2 => by
    have h2' : x < W + 1 := h2
    omega
  | a :: r, W, x, h, h1, h2 => by
    have ⟨p1, p2⟩ := h.cons
    have hg : gp W (a :: r) = if a > W + 1 then W + 1 else gp (W + a) r := rfl
    rw [sle_cons]
    by_cases q : a > W + 1
    · rw [hg, if_pos q] at h2; omega
    · rw [hg, if_neg q] at h2
      have hn := sle_nonneg p2 x
      by_cases c : W + a + 1 ≤ x
      · have := gp_below (W := W + a) p2 c h2
        rw [if_pos (by omega)]; omega
      · rw [if_pos (by omega)]; omega
section
variable {ws : List Int}
theorem fm_pos (h : Pos ws) : 1 ≤ fm ws := by
  rw [fm_lg]; have := gp_ge (W := 0) (h.perm (srt_perm ws)); unfold lg; omega
theorem fm_sle (h : Pos ws) : sle (fm ws) ws = fm ws - 1 := by
  rw [fm_lg]
  have := gp_sle (W := 0) (h.perm (srt_perm ws)) (srt_pw ws) (by omega)
  rw [sle_perm _ (srt_perm ws)] at this
  unfold lg; omega
theorem fm_below (h : Pos ws) {x : Int} (h1 : 1 ≤ x) (h2 : x < fm ws) : x ≤ sle x ws := by
  rw [fm_lg] at h2
  have := gp_below (W := 0) (h.perm (srt_perm ws)) (by omega) h2
  rw [sle_perm _ (srt_perm ws)] at this
  omega
theorem fm_le (h : Pos ws) {x : Int} (h1 : 1 ≤ x) (h2 : sle x ws < x) : fm ws ≤ x := by
  by_cases c : fm ws ≤ x
  · exact c
  · have := fm_below h h1 (by omega); omega
theorem fm_not_mem (h : Pos ws) : fm ws ∉ ws := fun hm => by
  have h1 := fm_sle h
  have h2 := sle_mem h hm (Int.le_refl _)
  omega
theorem fm_slt (h : Pos ws) : slt (fm ws) ws = fm ws - 1 := by rw [slt_sle (fm_not_mem h), fm_sle h]
/-- fewer weights, no greater gap -/
theorem fm_mono {a b : List Int} (ha : Pos a) (hb : Pos b) (h : ∀ x, sle x a ≤ sle x b) : fm a ≤ fm b := by
  refine fm_le ha (fm_pos hb) ?_
  have := h (fm b)
  have := fm_sle hb
  omega
theorem fm_app {a b : List Int} (ha : Pos a) (hb : Pos b) : fm a + fm b - 1 ≤ fm (a ++ b) := by
  have hab := ha.append hb
  have e := fm_sle hab
  rw [sle_append] at e
  have px := fm_pos hab
  have g1 := sle_nonneg ha (fm (a ++ b))
  have g2 := sle_nonneg hb (fm (a ++ b))
  have la : fm a ≤ fm (a ++ b) := by
    refine fm_le ha px ?_
    omega
  have lb : fm b ≤ fm (a ++ b) := by
    refine fm_le hb px ?_
    omega
  have m1 := sle_mono ha la
  have m2 := sle_mono hb lb
  have e1 := fm_sle ha
  have e2 := fm_sle hb
  omega
theorem fm_app_left {a b : List Int} (ha : Pos a) (hb : Pos b) : fm a ≤ fm (a ++ b) := by
  have := fm_app ha hb
  have := fm_pos hb
  omega
theorem fm_app_right {a b : List Int} (ha : Pos a) (hb : Pos b) : fm b ≤ fm (a ++ b) := by
  have := fm_app ha hb
  have := fm_pos ha
  omega
/-- a weight no heavier than the gap -/
theorem fm_put {a : List Int} {w : Int} (ha : Pos a) (hw : 1 ≤ w) (h : w ≤ fm a) : fm a + w ≤ fm (a ++ [w]) := by
  have hb := Pos.one hw
  have hab := ha.append hb
  have e := fm_sle hab
  have l := fm_app_left ha hb
  rw [sle_append, sle_one, if_pos (by omega)] at e
  have m1 := sle_mono ha l
  have e1 := fm_sle ha
  omega
theorem fm_put_far {a : List Int} {w : Int} (ha : Pos a) (h : fm a < w) : fm (a ++ [w]) = fm a := by
  have p := fm_pos ha
  have hb : Pos [w] := Pos.one (by omega)
  have hab := ha.append hb
  refine Int.le_antisymm (fm_le hab p ?_) (fm_app_left ha hb)
  rw [sle_append, sle_one, if_neg (by omega), fm_sle ha]
  omega
end
end Wt
namespace Wt
/-! greedy weighing -/
def lexLe (a b : Int × Int) : Prop := a.1 < b.1 ∨ (a.1 = b.1 ∧ a.2 ≤ b.2)
instance (a b : Int × Int) : Decidable (lexLe a b) := inferInstanceAs (Decidable (_ ∨ _))
def insP (a : Int × Int) : List (Int × Int) → List (Int × Int)
  | [] => [a]
  | b :: r => if lexLe a b then a :: b :: r else b :: insP a r
def srtP : List (Int × Int) → List (Int × Int)
  | [] => []
  | a :: r => insP a (srtP r)
theorem insP_perm (a : Int × Int) : ∀ l, (insP a l).Perm (a :: l)
  | [] => List.Perm.refl _
  | b :: r => by
    unfold insP
    split
    · exact List.Perm.refl _
    · exact ((insP_perm a r).cons b).trans (List.Perm.swap a b r)
theorem srtP_perm : ∀ l, (srtP l).Perm l
  | [] => List.Perm.refl _
  | a :: r => (insP_perm a (srtP r)).trans ((srtP_perm r).cons a)
theorem lexLe_trans {a b c : Int × Int} (h : lexLe a b) (k : lexLe b c) : lexLe a c := by
  unfold lexLe at *; omega
theorem lexLe_total {a b : Int × Int} (h : ¬ lexLe a b) : lexLe b a := by
  unfold lexLe at *; omega
theorem lexLe_antisymm {a b : Int × Int} (h : lexLe a b) (k : lexLe b a) : a = b := by
  unfold lexLe at *
  refine Prod.ext ?_ ?_ <;> omega
theorem insP_pw (a : Int × Int) : ∀ {l : List (Int × Int)}, l.Pairwise lexLe → (insP a l).Pairwise lexLe
  | [], _ => List.pairwise_cons.mpr ⟨(fun _ h => nomatch h), List.Pairwise.nil⟩
  | b :: r, h => by
    have ⟨h1, h2⟩ := List.pairwise_cons.mp h
    unfold insP
    split
    · rename_i hab
      refine List.pairwise_cons.mpr ⟨fun x hx => ?_, h⟩
      rcases List.mem_cons.mp hx with e | e
      · rw [e]; exact hab
      · exact lexLe_trans hab (h1 x e)
    · rename_i hab
      refine List.pairwise_cons.mpr ⟨fun x hx => ?_, insP_pw a h2⟩
      rcases List.mem_cons.mp ((insP_perm a r).mem_iff.mp hx) with e | e
      · rw [e]; exact lexLe_total hab
      · exact h1 x e
theorem srtP_pw : ∀ l, (srtP l).Pairwise lexLe
  | [] => List.Pairwise.nil
  | a :: r => insP_pw a (srtP_pw r)
theorem srtP_uniq {l m : List (Int × Int)} (p : l.Perm m) (s : l.Pairwise lexLe) : l = srtP m :=
  List.Perm.eq_of_pairwise (le := lexLe) (fun a b _ _ h1 h2 => lexLe_antisymm h1 h2) s (srtP_pw m) (p.trans (srtP_perm m).symm)
/-- the picked ones -/
def gr : Int → List (Int × Int) → List (Int × Int)
  | _, [] => []
  | left, (w, p) :: r => if w ≤ left then (w, p) :: gr (left - w) r else gr left r
theorem gr_sub : ∀ (l : List (Int × Int)) (left : Int), (gr left l).Sublist l
  | [], _ => List.Sublist.refl _
  | (w, p) :: r, left => by
    unfold gr
    split
    · exact (gr_sub r _).cons_cons _
    · exact (gr_sub r _).cons _
def Fr (l : List (Int × Int)) : Int := (l.reverse.map (·.1)).foldl fstep 1
theorem Fr_cons (x : Int × Int) (l : List (Int × Int)) : Fr (x :: l) = fstep (Fr l) x.1 := by
  unfold Fr
  rw [List.reverse_cons, List.map_append, List.foldl_append]
  rfl
theorem gr_sum : ∀ (l : List (Int × Int)) (left : Int), 0 ≤ left → left < Fr l → ((gr left l).map (·.1)).sum = left
  | [], left, h0, h1 => by
    have e : Fr [] = 1 := rfl
    show (0 : Int) = left
    omega
  | (w, p) :: r, left, h0, h1 => by
    rw [Fr_cons] at h1
    have h1' : left < if w ≤ Fr r then Fr r + w else Fr r := h1
    unfold gr
    by_cases c : w ≤ left
    · rw [if_pos c, List.map_cons, List.sum_cons]
      have : left - w < Fr r := by
        split at h1' <;> omega
      have := gr_sum r (left - w) (by omega) this
      show w + _ = left
      omega
    · rw [if_neg c]
      refine gr_sum r left h0 ?_
      split at h1' <;> omega
/-- the pairs of weights and places -/
def prs (ws : List Int) : List (Int × Int) := ws.zipIdx.map fun x => (x.1, (x.2 : Int))
theorem prs_fst (ws : List Int) : (prs ws).map (·.1) = ws := by
  unfold prs
  rw [List.map_map]
  exact List.zipIdx_map_fst 0 ws
theorem prs_length (ws : List Int) : (prs ws).length = ws.length := by
  unfold prs; rw [List.length_map, List.length_zipIdx]
theorem prs_get {ws : List Int} {i : Nat} {w : Int} (h : ws[i]? = some w) : (prs ws)[i]? = some (w, (i : Int)) := by
  unfold prs
  rw [List.getElem?_map, List.getElem?_zipIdx, h]
  simp
theorem prs_mem {ws : List Int} {x : Int × Int} (h : x ∈ prs ws) : ∃ i : Nat, x.2 = (i : Int) ∧ ws[i]? = some x.1 := by
  unfold prs at h
  obtain ⟨y, hy, e⟩ := List.mem_map.mp h
  refine ⟨y.2, by rw [← e], ?_⟩
  have := List.mk_mem_zipIdx_iff_getElem?.mp (show (y.1, y.2) ∈ ws.zipIdx from hy)
  rw [this, ← e]
theorem prs_places (ws : List Int) : (prs ws).map (·.2) = (List.range ws.length).map fun (i : Nat) => (i : Int) := by
  unfold prs
  rw [List.map_map]
  have : ((fun x : Int × Int => x.2) ∘ fun x : Int × Nat => (x.1, (x.2 : Int))) = (fun i : Nat => (i : Int)) ∘ (fun x : Int × Nat => x.2) := rfl
  rw [this, ← List.map_map, List.zipIdx_map_snd, List.range_eq_range']
theorem prs_nodup (ws : List Int) : ((prs ws).map (·.2)).Nodup := by
  rw [prs_places]
  refine List.Pairwise.map _ ?_ (List.nodup_range (n := ws.length))
  intro a b h e
  exact h (by omega)
def wg (ws : List Int) (n : Int) : List Int := srt ((gr n (srtP (prs ws)).reverse).map (·.2))
theorem srtP_fst (ws : List Int) : (srtP (prs ws)).map (·.1) = srt ws := by
  refine srt_uniq ?_ ?_
  · have := (srtP_perm (prs ws)).map (·.1)
    rw [prs_fst] at this
    exact this
  · refine List.Pairwise.map _ ?_ (srtP_pw (prs ws))
    intro a b h
    unfold lexLe at h
    omega
theorem Fr_fm (ws : List Int) : Fr (srtP (prs ws)).reverse = fm ws := by
  unfold Fr
  rw [List.reverse_reverse, srtP_fst]
  rfl
theorem wg_mem {ws : List Int} {n p : Int} (h : p ∈ wg ws n) : ∃ i : Nat, p = (i : Int) ∧ i < ws.length := by
  have h1 := (srt_perm _).mem_iff.mp h
  obtain ⟨x, hx, e⟩ := List.mem_map.mp h1
  have h2 := (srtP_perm _).mem_iff.mp (List.mem_reverse.mp ((gr_sub _ _).subset hx))
  obtain ⟨i, e2, e3⟩ := prs_mem h2
  exact ⟨i, by omega, (List.getElem?_eq_some_iff.mp e3).1⟩
theorem wg_nodup (ws : List Int) (n : Int) : (wg ws n).Nodup := by
  refine (srt_perm _).nodup_iff.mpr ?_
  have h1 : ((srtP (prs ws)).map (·.2)).Nodup := ((srtP_perm (prs ws)).map (·.2)).nodup_iff.mpr (prs_nodup ws)
  have h2 : (((srtP (prs ws)).reverse).map (·.2)).Nodup := by
    rw [List.map_reverse]
    exact (List.reverse_perm _).nodup_iff.mpr h1
  exact h2.sublist ((gr_sub _ _).map _)
theorem wg_pw (ws : List Int) (n : Int) : (wg ws n).Pairwise (· ≤ ·) := srt_pw _
theorem wg_lt (ws : List Int) (n : Int) : (wg ws n).Pairwise (· < ·) := by
  have h1 := wg_pw ws n
  have h2 : (wg ws n).Pairwise (· ≠ ·) := wg_nodup ws n
  exact (List.Pairwise.and h1 h2).imp fun ⟨a, b⟩ => by omega
theorem wg_length (ws : List Int) (n : Int) : (wg ws n).length ≤ ws.length := by
  unfold wg
  rw [srt_length, List.length_map]
  refine Nat.le_trans (gr_sub _ _).length_le ?_
  rw [List.length_reverse, (srtP_perm _).length_eq, prs_length]
  exact Nat.le_refl _
theorem wg_sum {ws : List Int} {n : Int} (h0 : 0 ≤ n) (h1 : n < fm ws) : ((wg ws n).map fun p => ws.getD p.toNat 0).sum = n := by
  have e1 : ((wg ws n).map fun p => ws.getD p.toNat 0).sum = (((gr n (srtP (prs ws)).reverse).map (·.2)).map fun p => ws.getD p.toNat 0).sum := perm_sum ((srt_perm _).map _)
  rw [e1, List.map_map]
  have e2 : ∀ x ∈ gr n (srtP (prs ws)).reverse, ((fun p : Int => ws.getD p.toNat 0) ∘ (fun x : Int × Int => x.2)) x = x.1 := by
    intro x hx
    have h2 := (srtP_perm _).mem_iff.mp (List.mem_reverse.mp ((gr_sub _ _).subset hx))
    obtain ⟨i, e2, e3⟩ := prs_mem h2
    show ws.getD x.2.toNat 0 = x.1
    rw [e2, Int.toNat_natCast, List.getD_eq_getElem?_getD, e3]
    rfl
  rw [List.map_congr_left e2]
  exact gr_sum _ n h0 (by rw [Fr_fm]; exact h1)
theorem gr_length_le (l : List (Int × Int)) (n : Int) : (gr n l).length ≤ l.length := (gr_sub l n).length_le
/-! taking one out -/
theorem sle_cut (ws : List Int) (i : Nat) (h : Pos ws) (x : Int) : sle x (ws.take i ++ ws.drop (i + 1)) ≤ sle x ws := by
  have e : ws = ws.take i ++ ws.drop i := (List.take_append_drop i ws).symm
  have e2 : sle x ws = sle x (ws.take i) + sle x (ws.drop i) := by
    have := congrArg (sle x) e
    rw [sle_append] at this
    exact this
  rw [sle_append, e2]
  have hd : Pos (ws.drop i) := h.sub fun y hy => List.mem_of_mem_drop hy
  cases hc : ws.drop i with
  | nil =>
    have : ws.drop (i + 1) = [] := by
      rw [List.drop_eq_nil_iff] at *
      omega
    rw [this]
    exact Int.le_refl _
  | cons a r =>
    have : ws.drop (i + 1) = r := by
      rw [← List.tail_drop, hc]
      rfl
    rw [this, sle_cons]
    rw [hc] at hd
    have := hd.cons.1
    split <;> omega
theorem cut_pos {ws : List Int} (i : Nat) (h : Pos ws) : Pos (ws.take i ++ ws.drop (i + 1)) :=
  (h.sub fun _ hy => List.mem_of_mem_take hy).append (h.sub fun _ hy => List.mem_of_mem_drop hy)
theorem fm_cut {ws : List Int} (i : Nat) (h : Pos ws) : fm (ws.take i ++ ws.drop (i + 1)) ≤ fm ws :=
  fm_mono (cut_pos i h) h (sle_cut ws i h)
/-! subset sums -/
def Rep : List Int → Int → Prop
  | [], n => n = 0
  | w :: l, n => Rep l n ∨ Rep l (n - w)
theorem Rep.perm {l m : List Int} (p : l.Perm m) : ∀ {n : Int}, Rep l n → Rep m n := by
  induction p with
  | nil => exact fun h => h
  | cons x _ ih => exact fun h => h.elim (fun k => .inl (ih k)) (fun k => .inr (ih k))
  | swap x y l =>
    intro n h
    rcases h with (h | h) | (h | h)
    · exact .inl (.inl h)
    · exact .inr (.inl h)
    · exact .inl (.inr h)
    · refine .inr (.inr ?_)
      rw [show n - x - y = n - y - x by omega]
      exact h
  | trans _ _ ih1 ih2 => exact fun h => ih2 (ih1 h)
theorem rep_snoc {l : List Int} {w n : Int} : Rep (l ++ [w]) n ↔ Rep l n ∨ Rep l (n - w) :=
  ⟨fun h => (Rep.perm (List.perm_append_singleton w l) h : Rep (w :: l) n), fun h => Rep.perm (List.perm_append_singleton w l).symm (h : Rep (w :: l) n)⟩
theorem Rep.nonneg : ∀ {l : List Int} {n : Int}, Pos l → Rep l n → 0 ≤ n
  | [], n, _, h => by have : n = 0 := h; omega
  | w :: l, n, hp, h => by
    have ⟨p1, p2⟩ := hp.cons
    rcases h with h | h
    · exact Rep.nonneg p2 h
    · have := Rep.nonneg p2 h; omega
theorem Rep.le_sum : ∀ {l : List Int} {n : Int}, Pos l → Rep l n → n ≤ l.sum
  | [], n, _, h => by have : n = 0 := h; show n ≤ 0; omega
  | w :: l, n, hp, h => by
    have ⟨p1, p2⟩ := hp.cons
    rw [List.sum_cons]
    rcases h with h | h
    · have := Rep.le_sum p2 h; omega
    · have := Rep.le_sum p2 h; omega
theorem Rep.sle {x : Int} : ∀ {l : List Int} {n : Int}, Pos l → n ≤ x → Rep l n → n ≤ sle x l
  | [], n, _, _, h => by have : n = 0 := h; show n ≤ 0; omega
  | w :: l, n, hp, hx, h => by
    have ⟨p1, p2⟩ := hp.cons
    rw [sle_cons]
    rcases h with h | h
    · have := Rep.sle p2 hx h; split <;> omega
    · have h0 := Rep.nonneg p2 h
      have := Rep.sle (x := x) p2 (by omega) h
      rw [if_pos (by omega)]; omega
theorem not_rep_fm {ws : List Int} (h : Pos ws) : ¬ Rep ws (fm ws) := fun k => by
  have := Rep.sle h (Int.le_refl _) k
  have := fm_sle h
  omega
theorem rep_of_lt : ∀ (l : List Int) (n : Int), 0 ≤ n → n < l.reverse.foldl fstep 1 → Rep l n
  | [], n, h0, h1 => by
    have h1' : n < 1 := h1
    show n = 0
    omega
  | w :: r, n, h0, h1 => by
    rw [List.reverse_cons, List.foldl_append] at h1
    have h1' : n < if w ≤ r.reverse.foldl fstep 1 then r.reverse.foldl fstep 1 + w else r.reverse.foldl fstep 1 := h1
    by_cases c : w ≤ n
    · refine .inr (rep_of_lt r (n - w) (by omega) ?_)
      split at h1' <;> omega
    · refine .inl (rep_of_lt r n h0 ?_)
      split at h1' <;> omega
theorem rep_fm {ws : List Int} {n : Int} (h0 : 0 ≤ n) (h1 : n < fm ws) : Rep ws n := by
  have : Rep (srt ws).reverse n := rep_of_lt _ n h0 (by rw [List.reverse_reverse]; exact h1)
  exact this.perm ((List.reverse_perm _).trans (srt_perm ws))
theorem fm_le_sum {ws : List Int} (h : Pos ws) : fm ws ≤ ws.sum + 1 := by
  refine fm_le h (by have := pos_sum h; omega) ?_
  have : sle (ws.sum + 1) ws ≤ ws.sum := by
    have : ∀ (l : List Int) (x : Int), Pos l → sle x l ≤ l.sum := by
      intro l x
      induction l with
      | nil => intro _; exact Int.le_refl _
      | cons a r ih =>
        intro hp
        have ⟨p1, p2⟩ := hp.cons
        have := ih p2
        rw [sle_cons, List.sum_cons]
        split <;> omega
    exact this ws _ h
  omega
end Wt
namespace Wt
/-! the fewest more -/
def fw (most : Int) : Nat → List Int → Int → List Int
  | 0, _, _ => []
  | k + 1, [], reach => if reach < most then (reach + 1) :: fw most k [] (2 * reach + 1) else []
  | k + 1, o :: r, reach => if reach < most then (if o ≤ reach + 1 then fw most k r (reach + o) else (reach + 1) :: fw most k (o :: r) (2 * reach + 1)) else []
def few (ws : List Int) (most : Int) : List Int := fw most most.toNat (srt ws) 0
theorem fw_stop {most : Int} {k : Nat} {ord : List Int} {reach : Int} (h : ¬ reach < most) : fw most k ord reach = [] := by
  cases k with
  | zero => rfl
  | succ k =>
    cases ord with
    | nil => exact if_neg h
    | cons o r => exact if_neg h
theorem fw_take {most : Int} {k : Nat} {o : Int} {r : List Int} {reach : Int} (h : reach < most) (c : o ≤ reach + 1) : fw most (k + 1) (o :: r) reach = fw most k r (reach + o) := (if_pos h).trans (if_pos c)
theorem fw_miss {most : Int} {k : Nat} {ord : List Int} {reach : Int} (h : reach < most) (c : ∀ o, ord.head? = some o → ¬ o ≤ reach + 1) : fw most (k + 1) ord reach = (reach + 1) :: fw most k ord (2 * reach + 1) := by
  cases ord with
  | nil => exact if_pos h
  | cons o r => exact (if_pos h).trans (if_neg (c o rfl))
/-- more turns than are needed change nothing -/
theorem fw_more {most : Int} : ∀ (k : Nat) {j : Nat} {ord : List Int} {reach : Int}, Pos ord → 0 ≤ reach → (most - reach).toNat ≤ k → k ≤ j → fw most j ord reach = fw most k ord reach
  | 0, j, ord, reach, hp, hr, h1, h2 => by
    have : ¬ reach < most := by omega
    rw [fw_stop this, fw_stop this]
  | k + 1, j, ord, reach, hp, hr, h1, h2 => by
    by_cases c : reach < most
    · obtain ⟨i, rfl⟩ : ∃ i, j = i + 1 := ⟨j - 1, by omega⟩
      cases ord with
      | nil =>
        rw [fw_miss c (fun o h => by cases h), fw_miss c (fun o h => by cases h), fw_more k hp (by omega) (by omega) (by omega)]
      | cons o r =>
        have ⟨p1, p2⟩ := hp.cons
        by_cases q : o ≤ reach + 1
        · rw [fw_take c q, fw_take c q, fw_more k p2 (by omega) (by omega) (by omega)]
        · have hq : ∀ o', (o :: r).head? = some o' → ¬ o' ≤ reach + 1 := fun o' h => by cases h; exact q
          rw [fw_miss c hq, fw_miss c hq, fw_more k hp (by omega) (by omega) (by omega)]
    · rw [fw_stop c, fw_stop c]
/-- weights lighter than m are taken in -/
def eat (m : Int) : List Int → Int → List Int × Int
  | [], W => ([], W)
  | o :: r, W => if o < m then eat m r (W + o) else (o :: r, W)
theorem eat_sub (m : Int) : ∀ (ord : List Int) (W : Int), ∃ pre, ord = pre ++ (eat m ord W).1 ∧ (eat m ord W).2 = W + pre.sum
  | [], W => ⟨[], rfl, by show W = W + 0; omega⟩
  | o :: r, W => by
    unfold eat
    split
    · obtain ⟨pre, e1, e2⟩ := eat_sub m r (W + o)
      refine ⟨o :: pre, ?_, ?_⟩
      · rw [List.cons_append, ← e1]
      · rw [e2, List.sum_cons]; omega
    · exact ⟨[], rfl, by show W = W + 0; omega⟩
theorem eat_pos {m : Int} {ord : List Int} {W : Int} (h : Pos ord) (hW : 0 ≤ W) : Pos (eat m ord W).1 ∧ 0 ≤ (eat m ord W).2 := by
  obtain ⟨pre, e1, e2⟩ := eat_sub m ord W
  have h1 : Pos (eat m ord W).1 := h.sub fun x hx => by rw [e1]; exact List.mem_append.mpr (.inr hx)
  have h2 : Pos pre := h.sub fun x hx => by rw [e1]; exact List.mem_append.mpr (.inl hx)
  have := pos_sum h2
  exact ⟨h1, by omega⟩
/-- the program's look at the misses; W: the lighter weights and the misses ahead together -/
def shL (most : Int) : List Int → Int → List Int → Bool
  | _, _, [] => true
  | ord, W, m :: r => if ¬ (1 ≤ m ∧ m ≤ most) ∨ (eat m ord W).1.head? = some m ∨ (eat m ord W).2 ≠ m - 1 then false else shL most (eat m ord W).1 ((eat m ord W).2 + m) r
/-- the law's own look -/
def duL (most : Int) : List Int → Int → Int → List Int → Bool
  | _, _, _, [] => true
  | ord, W, ah, m :: r => if ¬ (ah < m ∧ m ≤ most) then false else if (eat m ord W).1.head? = some m ∨ (eat m ord W).2 + ah ≠ m - 1 then false else duL most (eat m ord W).1 (eat m ord W).2 (ah + m) r
theorem eat_shift (m d : Int) : ∀ (ord : List Int) (W : Int), (eat m ord (W + d)).1 = (eat m ord W).1 ∧ (eat m ord (W + d)).2 = (eat m ord W).2 + d
  | [], W => ⟨rfl, rfl⟩
  | o :: r, W => by
    unfold eat
    split
    · have := eat_shift m d r (W + o)
      rw [show W + d + o = W + o + d by omega]
      exact this
    · exact ⟨rfl, rfl⟩
theorem sh_du {most : Int} : ∀ (ms : List Int) {ord : List Int} {W ah : Int}, Pos ord → 0 ≤ W → 0 ≤ ah → shL most ord (W + ah) ms = duL most ord W ah ms
  | [], _, _, _, _, _, _ => by
    unfold shL duL
    rfl
  | m :: r, ord, W, ah, hp, hW, ha => by
    have ⟨e1, e2⟩ := eat_shift m ah ord W
    have ⟨q1, q2⟩ := eat_pos (m := m) hp hW
    unfold shL duL
    rw [e1, e2]
    by_cases c : (eat m ord W).1.head? = some m ∨ (eat m ord W).2 + ah ≠ m - 1
    · rw [if_pos (Or.inr c), if_pos c]
      split <;> rfl
    · rw [if_neg c]
      have c1 := fun z => c (Or.inl z)
      have c2 : (eat m ord W).2 + ah = m - 1 := Classical.byContradiction fun z => c (Or.inr z)
      by_cases g : m ≤ most
      · rw [if_neg (fun z : ¬ (ah < m ∧ m ≤ most) => z ⟨by omega, g⟩)]
        rw [if_neg (fun z : ¬ (1 ≤ m ∧ m ≤ most) ∨ _ => z.elim (fun w => w ⟨by omega, g⟩) c)]
        have ih := sh_du (most := most) r (ord := (eat m ord W).1) (W := (eat m ord W).2) (ah := ah + m) q1 q2 (by omega)
        rw [show (eat m ord W).2 + ah + m = (eat m ord W).2 + (ah + m) by omega]
        exact ih
      · rw [if_pos (fun z : ah < m ∧ m ≤ most => g z.2), if_pos (Or.inl fun z : 1 ≤ m ∧ m ≤ most => g z.2)]
def shB (ws : List Int) (most : Int) (added misses : List Int) : Bool :=
  if added.length ≠ misses.length ∨ added.all (fun a => decide (0 < a)) = false then false else if fm (ws ++ added) ≤ most then false else shL most (srt ws) 0 misses
def duB (ws : List Int) (most : Int) (added misses : List Int) : Bool :=
  if added.length ≠ misses.length ∨ added.any (fun a => decide (a < 1)) = true ∨ lg (ws ++ added) ≤ most then false else duL most (srt ws) 0 0 misses
theorem any_all (added : List Int) : added.any (fun a => decide (a < 1)) = true ↔ added.all (fun a => decide (0 < a)) = false := by
  induction added with
  | nil => simp
  | cons a r ih =>
    rw [List.any_cons, List.all_cons, Bool.or_eq_true, Bool.and_eq_false_iff, ih]
    refine or_congr ?_ Iff.rfl
    simp; omega
theorem shB_duB {ws : List Int} (h : Pos ws) (most : Int) (added misses : List Int) : shB ws most added misses = duB ws most added misses := by
  unfold shB duB
  rw [← fm_lg]
  have e : shL most (srt ws) 0 misses = duL most (srt ws) 0 0 misses := sh_du (W := 0) (ah := 0) misses (h.perm (srt_perm ws)) (by omega) (by omega)
  by_cases c1 : added.length ≠ misses.length
  · rw [if_pos (Or.inl c1), if_pos (Or.inl c1)]
  · by_cases c2 : added.any (fun a => decide (a < 1)) = true
    · rw [if_pos (Or.inr ((any_all added).mp c2)), if_pos (Or.inr (Or.inl c2))]
    · by_cases c3 : fm (ws ++ added) ≤ most
      · rw [if_neg (fun z => z.elim c1 fun w => c2 ((any_all added).mpr w)), if_pos c3, if_pos (Or.inr (Or.inr c3))]
      · rw [if_neg (fun z => z.elim c1 fun w => c2 ((any_all added).mpr w)), if_neg c3, if_neg (fun z => z.elim c1 fun w => w.elim c2 c3), e]
/-! what the fewest are worth -/
/-- everything put in, in the order it comes -/
structure FwOk (most : Int) (reach : Int) (ord : List Int) (ms : List Int) : Prop where
  pos : Pos ms
  sh : ∀ (pre : List Int) (W : Int), (∀ m, reach < m → eat m (pre ++ ord) W = eat m ord (W + pre.sum)) → W + pre.sum = reach → shL most (pre ++ ord) W ms = true
  far : ∀ base : List Int, Pos base → reach + 1 ≤ fm base → most + 1 ≤ fm (base ++ ord ++ ms)
theorem eat_pre {m : Int} : ∀ {pre ord : List Int} {W : Int}, (∀ x ∈ pre, x < m) → eat m (pre ++ ord) W = eat m ord (W + pre.sum)
  | [], ord, W, _ => by
    show eat m ord W = eat m ord (W + 0)
    rw [Int.add_zero]
  | a :: r, ord, W, h => by
    have ha := h a List.mem_cons_self
    show (if a < m then eat m (r ++ ord) (W + a) else _) = _
    rw [if_pos ha, eat_pre fun x hx => h x (List.mem_cons_of_mem _ hx), List.sum_cons, Int.add_assoc]
theorem eat_stop {m : Int} {ord : List Int} {W : Int} (h : ∀ o, ord.head? = some o → ¬ o < m) : eat m ord W = (ord, W) := by
  cases ord with
  | nil => rfl
  | cons o r => exact if_neg (h o rfl)
theorem fm_mid {a b c : List Int} : fm (a ++ b ++ c) = fm (a ++ c ++ b) := by
  refine fm_perm ?_
  rw [List.append_assoc, List.append_assoc]
  exact List.Perm.append_left a List.perm_append_comm
theorem fw_ok {most : Int} : ∀ (k : Nat) {ord : List Int} {reach : Int}, Pos ord → 0 ≤ reach → (most - reach).toNat ≤ k → FwOk most reach ord (fw most k ord reach)
  | 0, ord, reach, hp, hr, hk => by
    have : ¬ reach < most := by omega
    rw [fw_stop this]
    refine ⟨Pos.nil, fun pre W _ _ => by unfold shL; rfl, fun base hb hf => ?_⟩
    rw [List.append_nil]
    have := fm_app_left hb hp
    omega
  | k + 1, ord, reach, hp, hr, hk => by
    by_cases c : reach < most
    · have miss : (∀ o, ord.head? = some o → ¬ o ≤ reach + 1) → FwOk most reach ord (fw most (k + 1) ord reach) := by
        intro hq
        rw [fw_miss c hq]
        have ih := fw_ok (most := most) k (ord := ord) (reach := 2 * reach + 1) hp (by omega) (by omega)
        refine ⟨fun w hw => ?_, fun pre W he hW => ?_, fun base hb hf => ?_⟩
        · rcases List.mem_cons.mp hw with e | e
          · rw [e]; omega
          · exact ih.pos w e
        · have e1 : eat (reach + 1) (pre ++ ord) W = (ord, reach) := by
            rw [he _ (by omega), eat_stop fun o ho => by have := hq o ho; omega, hW]
          unfold shL
          rw [e1]
          rw [if_neg]
          · have := ih.sh [] (reach + (reach + 1)) (fun m hm => by rw [List.nil_append, List.sum_nil, Int.add_zero]) (by rw [List.sum_nil]; omega)
            rw [List.nil_append] at this
            exact this
          · rintro (z | z | z)
            · exact z ⟨by omega, by omega⟩
            · have := hq _ z; omega
            · exact z (by show reach = reach + 1 - 1; omega)
        · have hb2 : Pos (base ++ [reach + 1]) := hb.append (Pos.one (by omega))
          have := ih.far (base ++ [reach + 1]) hb2 (by have := fm_put hb (show 1 ≤ reach + 1 by omega) hf; omega)
          have e : fm (base ++ ord ++ (reach + 1) :: fw most k ord (2 * reach + 1)) = fm (base ++ [reach + 1] ++ ord ++ fw most k ord (2 * reach + 1)) := by
            refine fm_perm ?_
            have : base ++ ord ++ (reach + 1) :: fw most k ord (2 * reach + 1) = (base ++ ord ++ [reach + 1]) ++ fw most k ord (2 * reach + 1) := by
              rw [List.append_assoc (base ++ ord), List.singleton_append]
            rw [this]
            refine List.Perm.append_right _ ?_
            rw [List.append_assoc, List.append_assoc]
            exact List.Perm.append_left base List.perm_append_comm
          rw [e]
          exact this
      cases ord with
      | nil => exact miss fun o h => nomatch h
      | cons o r =>
        have ⟨p1, p2⟩ := hp.cons
        by_cases q : o ≤ reach + 1
        · rw [fw_take c q]
          have ih := fw_ok (most := most) k (ord := r) (reach := reach + o) p2 (by omega) (by omega)
          refine ⟨ih.pos, fun pre W he hW => ?_, fun base hb hf => ?_⟩
          · have e : pre ++ o :: r = (pre ++ [o]) ++ r := by rw [List.append_assoc, List.singleton_append]
            rw [e]
            refine ih.sh (pre ++ [o]) W (fun m hm => ?_) (by rw [List.sum_append_int, List.sum_cons, List.sum_nil]; omega)
            rw [← e, he m (by omega), List.sum_append_int, List.sum_cons, List.sum_nil]
            show (if o < m then eat m r (W + pre.sum + o) else _) = _
            rw [if_pos (by omega)]
            congr 1
            omega
          · have := ih.far (base ++ [o]) (hb.append (Pos.one p1)) (by have := fm_put hb p1 (by omega); omega)
            rw [List.append_assoc base, List.singleton_append] at this
            exact this
        · exact miss fun o' h => by cases h; exact q
    · rw [fw_stop c]
      refine ⟨Pos.nil, fun pre W _ _ => by unfold shL; rfl, fun base hb hf => ?_⟩
      rw [List.append_nil]
      have := fm_app_left hb hp
      omega
theorem few_ok {ws : List Int} (h : Pos ws) {most : Int} (h0 : 0 ≤ most) : Pos (few ws most) ∧ shL most (srt ws) 0 (few ws most) = true ∧ most + 1 ≤ fm (ws ++ few ws most) := by
  have f := fw_ok (most := most) most.toNat (ord := srt ws) (reach := 0) (h.perm (srt_perm ws)) (Int.le_refl _) (by omega)
  refine ⟨f.pos, ?_, ?_⟩
  · exact f.sh [] 0 (fun m _ => by rw [List.nil_append, List.sum_nil, Int.add_zero]) rfl
  · have := f.far [] Pos.nil (by show (0 : Int) + 1 ≤ 1; omega)
    rw [List.nil_append] at this
    have e : fm (srt ws ++ few ws most) = fm (ws ++ few ws most) := fm_perm ((srt_perm ws).append_right _)
    rw [← e]
    exact this
theorem few_sh {ws : List Int} (h : Pos ws) {most : Int} (h0 : 0 ≤ most) : shB ws most (few ws most) (few ws most) = true := by
  obtain ⟨a, b, c⟩ := few_ok h h0
  unfold shB
  rw [if_neg, if_neg (by omega)]
  · exact b
  · rintro (z | z)
    · exact z rfl
    · rw [List.all_eq_false] at z
      obtain ⟨x, hx, hz⟩ := z
      have := a x hx
      exact hz (by simpa using (by omega : 0 < x))
end Wt
namespace Wt
open PySem L2 PySem.Spec PyProof.Rows
/-! ### heaps -/
theorem same_up {H : Hp} {p : Addr} {o : HO} (h : H p = none) : Same H (upd H p o) := fun b x e => by
  rw [upd_ne (ne_of_none e h)]
  exact e
/-- a thing that the heap H does not know may change -/
theorem same_mut {H H' : Hp} {p : Addr} {o : HO} (e : Same H H') (h : H p = none) : Same H (upd H' p o) := fun b x k => by
  rw [upd_ne (ne_of_none k h)]
  exact e b x k
theorem same_at {H H' : Hp} {a : Addr} {o : HO} (e : Same H H') (h : H a = some o) : H' a = some o := e a o h
theorem sq_h {K : PySem.W.Frag} {H : Hp} {a : Addr} {xs : List V} (h : H a = some (.lst xs)) : SqL K H a xs := .inl (.inl h)
theorem st_h {K : PySem.W.Frag} {H : Hp} {a : Addr} {xs : List V} (h : H a = some (.tup xs)) : SqT K H a xs := .inl (.inl h)
theorem same_sq {K : PySem.W.Frag} {H H' : Hp} {a : Addr} {xs : List V} (e : Same H H') (h : SqL K H a xs) : SqL K H' a xs := e.seq h
theorem same_st {K : PySem.W.Frag} {H H' : Hp} {a : Addr} {xs : List V} (e : Same H H') (h : SqT K H a xs) : SqT K H' a xs := by
  rcases h with (h | ⟨o, h⟩) | h
  · exact .inl (.inl (e _ _ h))
  · exact .inl (.inr ⟨o, e _ _ h⟩)
  · exact .inr h
theorem line_big : (16777216 : Nat) ≤ sizeLine := by
  rw [sizeLine_eq]
  exact Nat.le_refl _
theorem fits {n : Nat} (h : n ≤ 16777215) : n ≤ sizeLine := Nat.le_trans h (Nat.le_trans (by decide) line_big)
theorem fits_lt {n : Nat} (h : n ≤ 16777215) : n < sizeLine := Nat.lt_of_lt_of_le (Nat.lt_succ_of_le h) line_big
/-! ### readings from the left -/
section
variable {K : PySem.W.Frag} {σ σ' : L2.St} {H H' : Hp} {Q : VK} {QB : Bool → Hp → Prop} {QA : List V → Hp → Prop} {ta tb tc te : TE} {t u : TT} {r r' : R2} {x y z v : V} {i : Nat} {a b : Int} {tr : TA} {D : Ends} {tS uS : TS} {P : Prop}
def NewO (Q : VK) (n : Nat) (o : HO) (H : Hp) : Prop := n ≤ sizeLine ∧ ∀ p, H p = none → Q (.ref p) (upd H p o)
def MkO (C : Addr) (sp : Sp) (E : XK) (Q : VK) (vs : List V) (H1 : Hp) : Prop := ∀ x dx, H1 x = none → H1 dx = none → dx ≠ x → sp (.ref x :: vs) (upd (upd H1 dx (.own x)) x (.ins C dx [])) (fun v H2 => v = .non ∧ Q (.ref x) H2) E
def RevO (K : PySem.W.Frag) (Q : VK) (x : V) (H1 : Hp) : Prop := ∃ a xs, x = .ref a ∧ SqL K H1 a xs ∧ ∀ p, H1 p = none → Q (.ref p) (upd H1 p (.lst xs.reverse))
theorem w_var (h : σ[i]? = some (some v)) (k : Q v H) : tVar i σ H Q := ⟨v, h, k⟩
theorem w_c (k : Q v H) : tC v σ H Q := k
theorem w_op (k : ta σ H fun x H1 => tb σ H1 fun y H2 => r x y H2 Q) : tOp r ta tb σ H Q := k
theorem w_un {f : V → Hp → VK → Prop} (k : ta σ H fun x H1 => f x H1 Q) : tUn f ta σ H Q := k
theorem w_nil (k : QA [] H) : tNil σ H QA := k
theorem w_cons (k : te σ H fun x H1 => tr σ H1 fun xs H2 => QA (x :: xs) H2) : tCons te tr σ H QA := k
theorem w_tup (k : tr σ H fun xs H1 => NewO Q xs.length (.tup xs) H1) : tTup tr σ H Q := k
theorem w_lst (k : tr σ H fun xs H1 => NewO Q xs.length (.lst xs) H1) : tLst tr σ H Q := k
theorem w_cb {f : List V → Hp → VK → Prop} (k : tr σ H fun vs H1 => f vs H1 Q) : tCB f tr σ H Q := k
theorem w_test (k : te σ H fun x H' => ∃ k, x = .bl k ∧ QB k H') : tTest te σ H QB := k
theorem w_B (k : te σ H fun x H' => ∃ k, x = .bl k ∧ QB k H') : tB te σ H QB := k
theorem w_and (k : t σ H fun c H1 => if c = true then u σ H1 QB else QB false H1) : tAnd t u σ H QB := k
theorem w_or (k : t σ H fun c H1 => if c = true then QB true H1 else u σ H1 QB) : tOr t u σ H QB := k
theorem w_not (k : t σ H fun c H1 => QB (!c) H1) : tNot t σ H QB := k
theorem w_andV (k : ta σ H fun x H1 => ∃ c, x = .bl c ∧ if c = true then tb σ H1 Q else Q (.bl false) H1) : tAndV ta tb σ H Q := k
theorem w_orV (k : ta σ H fun x H1 => ∃ c, x = .bl c ∧ if c = true then Q (.bl true) H1 else tb σ H1 Q) : tOrV ta tb σ H Q := k
theorem w_notV (k : ta σ H fun x H1 => ∃ c, x = .bl c ∧ Q (.bl (!c)) H1) : tNotV ta σ H Q := k
theorem w_ifE (k : t σ H fun c H1 => if c = true then ta σ H1 Q else tb σ H1 Q) : tIf t ta tb σ H Q := k
theorem w_chain (k : ta σ H fun x H1 => tb σ H1 fun y H2 => r x y H2 fun z H3 => ∃ k, z = .bl k ∧ (if k = true then tc σ H3 fun w' H4 => r' y w' H4 Q else Q (.bl false) H3)) : tChain r r' ta tb tc σ H Q := k
theorem w_fld {f : Str} (k : ta σ H fun x H1 => ∃ a C dx fs v, x = .ref a ∧ H1 a = some (.ins C dx fs) ∧ Cls K C ∧ NoAttr K C f ∧ fs.lookup f = some v ∧ Q v H1) : tFld K ta f σ H Q := k
theorem w_call {sp : Sp} {E : XK} (k : tr σ H fun vs H1 => sp vs H1 Q E) : tCall sp [] E tr σ H Q := by
  have e : (fun (vs : List V) (H1 : Hp) => sp (vs ++ []) H1 Q E) = fun vs H1 => sp vs H1 Q E := by
    funext vs H1
    rw [List.append_nil]
  show tr σ H (fun vs H1 => sp (vs ++ []) H1 Q E)
  rw [e]
  exact k
theorem w_meth {C : Addr} {m : Str} {sp : Sp} {E : XK} (k : ta σ H fun x H1 => ∃ a dx fs, x = .ref a ∧ H1 a = some (.ins C dx fs) ∧ fs.lookup m = none ∧ tr σ H1 fun vs H2 => sp (x :: vs) H2 Q E) : tMeth C m sp [] E ta tr σ H Q := by
  have e : ∀ x : V, (fun (vs : List V) (H2 : Hp) => sp (x :: (vs ++ [])) H2 Q E) = fun vs H2 => sp (x :: vs) H2 Q E := by
    intro x
    funext vs H2
    rw [List.append_nil]
  show ta σ H fun x H1 => ∃ a dx fs, x = .ref a ∧ H1 a = some (.ins C dx fs) ∧ fs.lookup m = none ∧ tr σ H1 fun vs H2 => sp (x :: (vs ++ [])) H2 Q E
  simp only [e]
  exact k
theorem w_make {C : Addr} {sp : Sp} {E : XK} (k : tr σ H fun vs H1 => MkO C sp E Q vs H1) : tMake C sp [] E tr σ H Q := by
  have e : (fun (vs : List V) (H1 : Hp) => ∀ x dx, H1 x = none → H1 dx = none → dx ≠ x → sp (.ref x :: (vs ++ [])) (upd (upd H1 dx (.own x)) x (.ins C dx [])) (fun v H2 => v = .non ∧ Q (.ref x) H2) E) = fun vs H1 => MkO C sp E Q vs H1 := by
    funext vs H1
    simp only [List.append_nil]
    rfl
  show tr σ H fun vs H1 => ∀ x dx, H1 x = none → H1 dx = none → dx ≠ x → sp (.ref x :: (vs ++ [])) (upd (upd H1 dx (.own x)) x (.ins C dx [])) (fun v H2 => v = .non ∧ Q (.ref x) H2) E
  rw [e]
  exact k
theorem w_sl {f : V → Option Int → Option Int → Hp → VK → Prop} {tl th : TO} (k : te σ H fun x H1 => tl σ H1 fun l H2 => th σ H2 fun u H3 => f x l u H3 Q) : tSl f te tl th σ H Q := k
theorem w_part {QO : Option Int → Hp → Prop} (k : te σ H fun x H1 => ∃ i, x = .int i ∧ QO (some i) H1) : tPart te σ H QO := k
theorem w_nopart {QO : Option Int → Hp → Prop} (k : QO none H) : tNoPart σ H QO := k
theorem w_bm {T : String} {f : V → List V → Hp → VK → Prop} (k : ta σ H fun x H1 => tyV K T x H1 ∧ tr σ H1 fun xs H2 => f x xs H2 Q) : tBM K T f ta tr σ H Q := k
theorem w_bm0 {T : String} {f : V → List V → Hp → VK → Prop} (k : ta σ H fun x H1 => tyV K T x H1 ∧ f x [] H1 Q) : tBM0 K T f ta σ H Q := k
theorem w_rev (k : te σ H fun x H1 => RevO K Q x H1) : tRevL K te σ H Q := k
theorem w_yes (k : QB true H) : tYes σ H QB := k
/-! statements -/
theorem w_seq (k : tS { D with nx := uS D } σ H) : tSeq tS uS D σ H := k
theorem w_asg (k : te σ H fun x H1 => D.nx (σ.set i (some x)) H1) : tAsg te (gName i) D σ H := k
theorem w_ifS (k : t σ H fun b H1 => if b = true then tS D σ H1 else uS D σ H1) : tIfS t tS uS D σ H := k
theorem w_ret (k : te σ H D.rt) : tRet te D σ H := k
theorem w_drop (k : te σ H fun _ H1 => D.nx σ H1) : tDrop te D σ H := k
theorem w_next (k : D.nx σ H) : tNext D σ H := k
theorem w_flds {tv : TE} {f : Str} (k : tv σ H fun y H1 => ta σ H1 fun x H2 => ∃ a C dx fs, x = .ref a ∧ H2 a = some (.ins C dx fs) ∧ Cls K C ∧ NoAttr K C f ∧ fs.length < 1000 ∧ D.nx σ (upd H2 a (.ins C dx (putF f y fs)))) : sFld K ta tv f D σ H := k
theorem set_0 {w : Option V} {l : L2.St} : (w :: l).set 0 (some v) = some v :: l := rfl
theorem set_s {w : Option V} {l l' : L2.St} {n : Nat} {q : Option V} (h : l.set n q = l') : (w :: l).set (n + 1) q = w :: l' := by rw [List.set_cons_succ, h]
theorem w_nx {f : L2.St → Hp → Prop} {q : Option V} (h : σ.set i q = σ') (k : f σ' H) : f (σ.set i q) H := h ▸ k
/-! values -/
theorem v_b {c : Bool} {q : Bool → Prop} (k : q c) : ∃ k, V.bl c = V.bl k ∧ q k := ⟨c, rfl, k⟩
theorem v_i {q : Int → Prop} (k : q a) : ∃ i, V.int a = V.int i ∧ q i := ⟨a, rfl, k⟩
theorem v_I0 {g : Int → Int → V} (k : Q (g a b) H) : rI0 g (.int a) (.int b) H Q := ⟨a, b, rfl, rfl, k⟩
theorem v_I {C : Int → Int → Prop} {g : Int → Int → V} (c : C a b) (k : Q (g a b) H) : rI C g (.int a) (.int b) H Q := ⟨a, b, rfl, rfl, c, k⟩
theorem v_U {g : Int → V} (k : Q (g a) H) : rU g (.int a) H Q := ⟨a, rfl, k⟩
theorem v_eqI (k : Q (.bl (decide (a = b))) H) : rEq (.int a) (.int b) H Q := ⟨rfl, by rw [show decide (V.int a = V.int b) = decide (a = b) from decide_eq_decide.mpr ⟨V.int.inj, congrArg _⟩]; exact k⟩
theorem v_neI (k : Q (.bl (!decide (a = b))) H) : rNe (.int a) (.int b) H Q := ⟨rfl, by rw [show decide (V.int a = V.int b) = decide (a = b) from decide_eq_decide.mpr ⟨V.int.inj, congrArg _⟩]; exact k⟩
theorem v_eqB {c d : Bool} (k : Q (.bl (c == d)) H) : rEq (.bl c) (.bl d) H Q := ⟨rfl, by rw [dec_bl]; exact k⟩
theorem v_neB {c d : Bool} (k : Q (.bl (!(c == d))) H) : rNe (.bl c) (.bl d) H Q := ⟨rfl, by rw [dec_bl]; exact k⟩
theorem v_ixL {p : Addr} {xs : List V} (h : SqL K H p xs) (e : atI xs a = some v) (k : Q v H) : rIxL K (.ref p) (.int a) H Q := ⟨p, xs, a, v, rfl, rfl, h, e, k⟩
theorem v_ixT {p : Addr} {xs : List V} (h : SqT K H p xs) (e : atI xs a = some v) (k : Q v H) : rIxT K (.ref p) (.int a) H Q := ⟨p, xs, a, v, rfl, rfl, h, e, k⟩
theorem v_new {o : HO} {q : V → Hp → Prop} (k : ∀ p H2, H p = none → Same H H2 → H2 p = some o → q (.ref p) H2) : ∀ p, H p = none → q (.ref p) (upd H p o) := fun p hp => k p _ hp (same_up hp) upd_same
theorem v_newL {o : HO} {n : Nat} (hz : n ≤ 16777215) (k : ∀ p H2, H p = none → Same H H2 → H2 p = some o → Q (.ref p) H2) : NewO Q n o H := ⟨fits hz, v_new k⟩
theorem v_ift {A B : Prop} {c : Bool} (h : c = true) (k : A) : if c = true then A else B := by rw [if_pos h]; exact k
theorem v_iff {A B : Prop} {c : Bool} (h : c = false) (k : B) : if c = true then A else B := by rw [if_neg (by rw [h]; exact Bool.false_ne_true)]; exact k
theorem v_if {A B : Prop} {c : Bool} (h1 : c = true → A) (h2 : c = false → B) : if c = true then A else B := by
  cases c with
  | true => exact h1 rfl
  | false => exact h2 rfl
theorem v_fld {o C dx : Addr} {fs : List (Str × V)} {f : Str} {q : V → Prop} (h : H o = some (.ins C dx fs)) (hc : Cls K C) (hn : NoAttr K C f) (hl : fs.lookup f = some v) (k : q v) :
    ∃ a C dx fs v, V.ref o = .ref a ∧ H a = some (.ins C dx fs) ∧ Cls K C ∧ NoAttr K C f ∧ fs.lookup f = some v ∧ q v := ⟨o, C, dx, fs, v, rfl, h, hc, hn, hl, k⟩
theorem v_meth {o C dx : Addr} {fs : List (Str × V)} {m : Str} {q : Prop} (h : H o = some (.ins C dx fs)) (hl : fs.lookup m = none) (k : q) : ∃ a dx fs, V.ref o = .ref a ∧ H a = some (.ins C dx fs) ∧ fs.lookup m = none ∧ q := ⟨o, dx, fs, rfl, h, hl, k⟩
/-- a value by and, or: the right side is asked in a like heap, its answer known -/
theorem v_andV {c d : Bool} (h : c = true → ∀ q : VK, (∀ H2, Same H H2 → q (.bl d) H2) → tb σ H q) (k : ∀ H2, Same H H2 → Q (.bl (c && d)) H2) : if c = true then tb σ H Q else Q (.bl false) H := by
  cases c with
  | true => exact h rfl Q k
  | false => exact k H (Same.refl H)
theorem v_orV {c d : Bool} (h : c = false → ∀ q : VK, (∀ H2, Same H H2 → q (.bl d) H2) → tb σ H q) (k : ∀ H2, Same H H2 → Q (.bl (c || d)) H2) : if c = true then Q (.bl true) H else tb σ H Q := by
  cases c with
  | true => exact k H (Same.refl H)
  | false => exact h rfl Q k
/-- the same for tests -/
theorem v_and {c d : Bool} (h : c = true → ∀ q : Bool → Hp → Prop, (∀ H2, Same H H2 → q d H2) → u σ H q) (k : ∀ H2, Same H H2 → QB (c && d) H2) : if c = true then u σ H QB else QB false H := by
  cases c with
  | true => exact h rfl QB k
  | false => exact k H (Same.refl H)
theorem v_or {c d : Bool} (h : c = false → ∀ q : Bool → Hp → Prop, (∀ H2, Same H H2 → q d H2) → u σ H q) (k : ∀ H2, Same H H2 → QB (c || d) H2) : if c = true then QB true H else u σ H QB := by
  cases c with
  | true => exact k H (Same.refl H)
  | false => exact h rfl QB k
/-- a chained comparison of ints -/
theorem v_ch {c d : Bool} (h : c = true → ∀ q' : VK, q' (.bl d) H → tc σ H fun w' H4 => r' y w' H4 q') (k : Q (.bl (c && d)) H) : if c = true then tc σ H fun w' H4 => r' y w' H4 Q else Q (.bl false) H := by
  cases c with
  | true => exact h rfl Q k
  | false => exact k
/-! built-ins -/
theorem v_sum {l : Addr} {ns : List Int} (h : SqL K H l (ns.map V.int)) (k : Q (.int ns.sum) H) : rSum K [.ref l] H Q := ⟨l, ns, rfl, h, k⟩
theorem v_all {l : Addr} {bs : List Bool} (h : SqL K H l (bs.map V.bl)) (k : Q (.bl (bs.all id)) H) : rAll K [.ref l] H Q := ⟨l, bs, rfl, h, k⟩
theorem v_any {l : Addr} {bs : List Bool} (h : SqL K H l (bs.map V.bl)) (k : Q (.bl (bs.any id)) H) : rAny K [.ref l] H Q := ⟨l, bs, rfl, h, k⟩
theorem v_sorted {l : Addr} {ns : List Int} (h : SqL K H l (ns.map V.int)) (k : ∀ p H2, H p = none → Same H H2 → H2 p = some (.lst ((srt ns).map V.int)) → Q (.ref p) H2) : rSortedI K [.ref l] H Q :=
  ⟨l, ns, rfl, h, fun ns' p hp hs hn => by rw [srt_uniq hp hs]; exact k p _ hn (same_up hn) upd_same⟩
theorem v_slice {l : Addr} {xs : List V} {lo hi : Option Int} (h : SqL K H l xs) (k : ∀ p H2, H p = none → Same H H2 → H2 p = some (.lst (cutV xs lo hi)) → Q (.ref p) H2) : rSlL K (.ref l) lo hi H Q := ⟨l, xs, rfl, h, v_new k⟩
theorem cut_from {α : Type} (f : α → V) (ns : List α) {i : Int} (h : 0 ≤ i) : cutV (ns.map f) (some i) none = (ns.drop i.toNat).map f := by
  obtain ⟨j, rfl⟩ := Int.eq_ofNat_of_zero_le h
  unfold cutV
  rw [HT.sIx_none, show HT.sIx (ns.map f).length 0 (some ((j : Nat) : Int)) = min j (ns.map f).length from HT.sIx_nat _ _ _, Int.toNat_natCast, List.length_map, ← List.map_drop, ← List.map_take]
  congr 1
  by_cases c : j ≤ ns.length
  · rw [Nat.min_eq_left c]
    refine List.take_of_length_le ?_
    rw [List.length_drop]
    omega
  · rw [Nat.min_eq_right (by omega), List.drop_of_length_le (Nat.le_refl _), List.drop_of_length_le (by omega), List.take_nil]
theorem cut_to {α : Type} (f : α → V) (ns : List α) {i : Int} (h : 0 ≤ i) : cutV (ns.map f) none (some i) = (ns.take i.toNat).map f := by
  obtain ⟨j, rfl⟩ := Int.eq_ofNat_of_zero_le h
  unfold cutV
  rw [HT.sIx_none, show HT.sIx (ns.map f).length (ns.map f).length (some ((j : Nat) : Int)) = min j (ns.map f).length from HT.sIx_nat _ _ _, Int.toNat_natCast, List.length_map, List.drop_zero, Nat.sub_zero, ← List.map_take]
  congr 1
  by_cases c : j ≤ ns.length
  · rw [Nat.min_eq_left c]
  · rw [Nat.min_eq_right (by omega), List.take_of_length_le (Nat.le_refl _), List.take_of_length_le (by omega)]
theorem v_sliceF {l : Addr} {ns : List Int} (h : SqL K H l (ns.map V.int)) (ha : 0 ≤ a) (k : ∀ p H2, H p = none → Same H H2 → H2 p = some (.lst ((ns.drop a.toNat).map V.int)) → Q (.ref p) H2) : rSlL K (.ref l) (some a) none H Q :=
  v_slice h fun p H2 h1 h2 h3 => k p H2 h1 h2 (by rw [← cut_from V.int ns ha]; exact h3)
theorem v_sliceT {l : Addr} {ns : List Int} (h : SqL K H l (ns.map V.int)) (ha : 0 ≤ a) (k : ∀ p H2, H p = none → Same H H2 → H2 p = some (.lst ((ns.take a.toNat).map V.int)) → Q (.ref p) H2) : rSlL K (.ref l) none (some a) H Q :=
  v_slice h fun p H2 h1 h2 h3 => k p H2 h1 h2 (by rw [← cut_to V.int ns ha]; exact h3)
theorem v_cat {l m : Addr} {ns ms : List Int} (h : H l = some (.lst (ns.map V.int))) (h' : H m = some (.lst (ms.map V.int))) (hz : ns.length + ms.length ≤ 16777215) (k : ∀ p H2, H p = none → Same H H2 → H2 p = some (.lst ((ns ++ ms).map V.int)) → Q (.ref p) H2) :
    rCat (.ref l) (.ref m) H Q := ⟨l, m, _, _, rfl, rfl, h, h', by rw [List.length_map, List.length_map]; exact fits hz, fun p hp => by rw [← List.map_append]; exact k p _ hp (same_up hp) upd_same⟩
theorem v_rev {l : Addr} {ns : List Int} (h : SqL K H l (ns.map V.int)) (k : ∀ p H2, H p = none → Same H H2 → H2 p = some (.lst (ns.reverse.map V.int)) → Q (.ref p) H2) :
    RevO K Q (.ref l) H := ⟨l, _, rfl, h, fun p hp => by rw [← List.map_reverse]; exact k p _ hp (same_up hp) upd_same⟩
def rLen (K : PySem.W.Frag) : List V → Hp → VK → Prop := fun xs H Q => ∃ p ys, xs = [.ref p] ∧ (SqL K H p ys ∨ SqT K H p ys) ∧ Q (.int ys.length) H
theorem call_lenK {X : Cx} : CallR X (.builtin "len") (rLen X.K) := call_len_seq
theorem v_len {l : Addr} {ns : List Int} (h : SqL K H l (ns.map V.int)) (k : Q (.int (ns.length : Int)) H) : rLen K [.ref l] H Q := ⟨l, _, rfl, .inl h, by rw [List.length_map]; exact k⟩
def rListOf (K : PySem.W.Frag) : List V → Hp → VK → Prop := fun xs H Q => ∃ p ys, xs = [.ref p] ∧ (SqL K H p ys ∨ SqT K H p ys) ∧ ∀ l, H l = none → Q (.ref l) (upd H l (.lst ys))
theorem call_listK {X : Cx} : CallR X (.type "list") (rListOf X.K) := call_list_of
theorem v_list {l : Addr} {ys : List V} (h : SqL K H l ys) (k : ∀ p H2, H p = none → Same H H2 → H2 p = some (.lst ys) → Q (.ref p) H2) : rListOf K [.ref l] H Q := ⟨l, ys, rfl, .inl h, v_new k⟩
/-- x in xs, ints -/
theorem inV_int (x : Int) (ns : List Int) : inV (.int x) (ns.map V.int) = decide (x ∈ ns) := by
  unfold inV
  rw [List.any_map]
  induction ns with
  | nil => rfl
  | cons a r ih =>
    rw [List.any_cons, ih]
    show ((a == x) || decide (x ∈ r)) = decide (x ∈ a :: r)
    by_cases h : x = a
    · subst h; simp
    · have : (a == x) = false := by simpa using fun e : a = x => h e.symm
      rw [this]; simp [h]
theorem flat_ints (ns : List Int) : (ns.map V.int).all flatV = true := by
  rw [List.all_map, List.all_eq_true]
  intro x _
  rfl
theorem v_in {l : Addr} {ns : List Int} (h : SqL K H l (ns.map V.int)) (k : Q (.bl (decide (a ∈ ns))) H) : rIn K false (.int a) (.ref l) H Q := ⟨l, _, rfl, .inl h, rfl, flat_ints ns, by rw [inV_int]; exact k⟩
theorem v_notIn {l : Addr} {ns : List Int} (h : SqL K H l (ns.map V.int)) (k : Q (.bl (!decide (a ∈ ns))) H) : rIn K true (.int a) (.ref l) H Q := ⟨l, _, rfl, .inl h, rfl, flat_ints ns, by rw [inV_int]; exact k⟩
/-- == of two lists of ints -/
theorem dp_ints {l : Addr} {ns : List Int} (h : SqL K H l (ns.map V.int)) : Dp K H (.ref l) (.list (ns.map PyData.int)) := by
  refine .lst h ?_
  clear h
  induction ns with
  | nil => exact .nil
  | cons a r ih => exact .cons (.int a) ih
theorem canLay_ints (ns : List Int) : PyData.canLayAll0 (ns.map PyData.int) = true := by
  induction ns with
  | nil => rfl
  | cons a r ih =>
    rw [List.map_cons]
    unfold PyData.canLayAll0
    rw [ih]
    rfl
theorem depth_ints (ns : List Int) : PyData.depthAll (ns.map PyData.int) = 0 := by
  induction ns with
  | nil => rfl
  | cons a r ih =>
    rw [List.map_cons]
    unfold PyData.depthAll
    rw [ih]
    rfl
theorem shaped_ints (ns : List Int) : SeqAt.shaped (.list (ns.map PyData.int)) = true := by
  unfold SeqAt.shaped PyData.canLay0 PyData.depth
  rw [canLay_ints, depth_ints]
  rfl
theorem eqvAll_ints : ∀ ns ms : List Int, PyData.eqvAll (ns.map PyData.int) (ms.map PyData.int) = decide (ns = ms)
  | [], [] => rfl
  | [], _ :: _ => rfl
  | _ :: _, [] => rfl
  | a :: r, b :: q => by
    rw [List.map_cons, List.map_cons]
    unfold PyData.eqvAll PyData.eqv
    rw [eqvAll_ints r q]
    by_cases h : a = b
    · subst h; simp
    · have : (a == b) = false := by simpa using h
      rw [this]; simp [h]
theorem eqv_ints (ns ms : List Int) : PyData.eqv (.list (ns.map PyData.int)) (.list (ms.map PyData.int)) = decide (ns = ms) := by
  unfold PyData.eqv
  exact eqvAll_ints ns ms
theorem v_eqL {l m : Addr} {ns ms : List Int} (h : SqL K H l (ns.map V.int)) (h' : SqL K H m (ms.map V.int)) (k : Q (.bl (decide (ns = ms))) H) : rEqD K (.ref l) (.ref m) H Q :=
  ⟨_, _, dp_ints h, dp_ints h', shaped_ints ns, shaped_ints ms, by rw [eqv_ints]; exact k⟩
theorem v_neL {l m : Addr} {ns ms : List Int} (h : SqL K H l (ns.map V.int)) (h' : SqL K H m (ms.map V.int)) (k : Q (.bl (!decide (ns = ms))) H) : rNeD K (.ref l) (.ref m) H Q :=
  ⟨_, _, dp_ints h, dp_ints h', shaped_ints ns, shaped_ints ms, by rw [eqv_ints]; exact k⟩
end

/-! ### loops over lists of ints, by what is left -/
def ForL (K : PySem.W.Frag) (g : TG) (tb : TS) (D : Ends) (σ : L2.St) (x : V) (H1 : Hp) : Prop := ∃ a, x = .ref a ∧ (∃ xs, SqL K H1 a xs) ∧ ∃ W : Nat → Nat → L2.St → Hp → Prop, (∃ m, W 0 m σ H1) ∧ ∀ i m σ H, W i m σ H →
  ((Itl K a).stop i H ∧ D.nx σ H) ∨ ((Itl K a).go i H ∧ ∃ N : L2.St → Hp → Prop, (∀ σ' H', N σ' H' → ∃ m', m' < m ∧ W (i + 1) m' σ' H') ∧ ∀ x H', (Itl K a).yld i H x H' → g x σ H' fun σ2 H2 => tb { D with nx := N, ct := N, bk := D.nx } σ2 H2)
section
variable {K : PySem.W.Frag} {σ : L2.St} {H : Hp} {tl : TE} {g : TG} {tb : TS} {D : Ends}
theorem w_for (k : tl σ H fun x H1 => ForL K g tb D σ x H1) : tFor (iList K tl) g tb D σ H := k
/-- over any list whose items are values of things -/
theorem v_forG {α : Type} {emb : α → V} {a : Addr} {ns : List α} (hS : SqL K H a (ns.map emb)) (Pv : List α → L2.St → Hp → Prop) (h0 : Pv ns σ H) (hP : ∀ r σ' H', Pv r σ' H' → SqL K H' a (ns.map emb))
    (hs : ∀ (pre : List α) n r σ' H', ns = pre ++ n :: r → Pv (n :: r) σ' H' → g (emb n) σ' H' fun σ2 H2 => tb { D with nx := Pv r, ct := Pv r, bk := D.nx } σ2 H2) (hd : ∀ σ' H', Pv [] σ' H' → D.nx σ' H') : ForL K g tb D σ (.ref a) H := by
  refine ⟨a, rfl, ⟨_, hS⟩, for_list (K := K) (a := a) (xs := ns.map emb) (fun i σ' H' => Pv (ns.drop i) σ' H') h0 (fun i σ' H' _ p => hP _ _ _ p) ?_ ?_⟩
  · intro i x σ' H' hx p
    rw [List.getElem?_map] at hx
    cases hn : ns[i]? with
    | none => rw [hn] at hx; cases hx
    | some n =>
      rw [hn] at hx
      have hx' : x = emb n := (Option.some.inj hx).symm
      subst hx'
      have hi : i < ns.length := (List.getElem?_eq_some_iff.mp hn).1
      have hv : ns[i] = n := (List.getElem?_eq_some_iff.mp hn).2
      have e : ns.drop i = n :: ns.drop (i + 1) := by rw [← hv]; exact List.drop_eq_getElem_cons hi
      rw [e] at p
      exact hs (ns.take i) n (ns.drop (i + 1)) σ' H' (by rw [← e, List.take_append_drop]) p
  · intro σ' H' p
    rw [List.length_map, List.drop_length] at p
    exact hd σ' H' p
theorem v_forI {a : Addr} {j : Nat} {ns : List Int} (hS : SqL K H a (ns.map V.int)) (Pv : List Int → L2.St → Hp → Prop) (h0 : Pv ns σ H) (hP : ∀ r σ' H', Pv r σ' H' → SqL K H' a (ns.map V.int))
    (hs : ∀ (pre : List Int) n r σ' H', ns = pre ++ n :: r → Pv (n :: r) σ' H' → tb { D with nx := Pv r, ct := Pv r, bk := D.nx } (σ'.set j (some (.int n))) H') (hd : ∀ σ' H', Pv [] σ' H' → D.nx σ' H') : ForL K (gName j) tb D σ (.ref a) H :=
  v_forG hS Pv h0 hP hs hd
end
/-! ### comprehensions -/
def LcL (K : PySem.W.Frag) (g : TG) (tt : TT) (te : TE) (vs : List Nat) (σ : L2.St) (Q : VK) (x : V) (H1 : Hp) : Prop := ∃ a, x = .ref a ∧ (∃ xs, SqL K H1 a xs) ∧ ∀ D, H1 D = none → ∃ W : Nat → Nat → Hp → Prop, (∃ m, W 0 m (upd H1 D (.lst []))) ∧ ∀ i m H, W i m H →
  ((Itl K a).stop i H ∧ Q (.ref D) H) ∨ ((Itl K a).go i H ∧ ∃ Nx : Hp → Prop, (∀ H', Nx H' → ∃ m', m' < m ∧ W (i + 1) m' H') ∧ ∀ x H', (Itl K a).yld i H x H' → g x (wipe σ vs) H' fun σ2 H2 => wipe σ2 vs = wipe σ vs ∧ tt σ2 H2 fun b H3 =>
    if b = true then te σ2 H3 fun y H4 => ∃ acc, H4 D = some (.lst acc) ∧ acc.length < sizeLine ∧ Nx (upd H4 D (.lst (acc ++ [y]))) else Nx H3)
section
variable {K : PySem.W.Frag} {σ : L2.St} {H : Hp} {Q : VK} {tl te : TE} {tt : TT} {g : TG} {vs : List Nat}
theorem w_lc (k : tl σ H fun x H1 => LcL K g tt te vs σ Q x H1) : tLc (iList K tl) g tt te vs σ H Q := k
theorem filter_take {α : Type} {ns : List α} {i : Nat} {n : α} (p : α → Bool) (h : ns[i]? = some n) : (ns.take (i + 1)).filter p = (ns.take i).filter p ++ if p n = true then [n] else [] := by
  rw [List.take_add_one, h, List.filter_append]
  congr 1
  show List.filter p [n] = _
  cases c : p n with
  | true => simp [c]
  | false => simp [c]
/-- [f x for x in xs if p x]: each turn's parts leave what stands and may make things -/
theorem v_lcG {α : Type} {emb : α → V} {a : Addr} {ns : List α} {σ2 : α → L2.St} {H0 : Hp} (p : α → Bool) (f : α → V) (hS : SqL K H a (ns.map emb)) (hz : ns.length ≤ 16777215)
    (hg : ∀ n H' (R : L2.St → Hp → Prop), n ∈ ns → Same H H' → (∀ H2, Same H' H2 → R (σ2 n) H2) → g (emb n) (wipe σ vs) H' R) (hw : ∀ n ∈ ns, wipe (σ2 n) vs = wipe σ vs)
    (ht : ∀ n H', n ∈ ns → Same H H' → ∀ R : Bool → Hp → Prop, (∀ H2, Same H' H2 → R (p n) H2) → tt (σ2 n) H' R)
    (he : ∀ n H', n ∈ ns → p n = true → Same H H' → ∀ R : VK, (∀ H2, Same H' H2 → R (f n) H2) → te (σ2 n) H' R)
    (k : ∀ D H2, H D = none → Same H H2 → H2 D = some (.lst ((ns.filter p).map f)) → Q (.ref D) H2) : LcL K g tt te vs σ Q (.ref a) H := by
  refine ⟨a, rfl, ⟨_, hS⟩, fun D hD => lc_list (K := K) (a := a) (xs := ns.map emb) (fun i H' => Same H H' ∧ H' D = some (.lst (((ns.take i).filter p).map f))) ⟨same_up hD, upd_same⟩ (fun i H' _ h => h.1.seq hS) ?_ ?_⟩
  · intro i x H' hx ⟨s1, d1⟩
    rw [List.getElem?_map] at hx
    cases hn : ns[i]? with
    | none => rw [hn] at hx; cases hx
    | some n =>
      rw [hn] at hx
      have hx' : x = emb n := (Option.some.inj hx).symm
      subst hx'
      have hi : i < ns.length := (List.getElem?_eq_some_iff.mp hn).1
      have hm : n ∈ ns := List.mem_of_getElem? hn
      have hl : (((ns.take i).filter p).map f).length < sizeLine := by
        refine fits_lt ?_
        rw [List.length_map]
        refine Nat.le_trans (List.length_filter_le _ _) ?_
        rw [List.length_take]
        omega
      refine hg n H' _ hm s1 fun H2 s2 => ⟨hw n hm, ?_⟩
      refine ht n H2 hm (s1.trans s2) _ fun H3 s3 => ?_
      have ft := filter_take p hn
      cases c : p n with
      | true =>
        rw [if_pos rfl]
        refine he n H3 hm c ((s1.trans s2).trans s3) _ fun H4 s4 => ?_
        rw [c, if_pos rfl] at ft
        refine ⟨_, s4 _ _ (s3 _ _ (s2 _ _ d1)), hl, same_mut (((s1.trans s2).trans s3).trans s4) hD, ?_⟩
        rw [upd_same, ft, List.map_append]
        rfl
      | false =>
        rw [if_neg Bool.false_ne_true]
        rw [c, if_neg Bool.false_ne_true, List.append_nil] at ft
        exact ⟨(s1.trans s2).trans s3, by rw [ft]; exact s3 _ _ (s2 _ _ d1)⟩
  · intro H' ⟨s1, d1⟩
    rw [List.length_map, List.take_length] at d1
    exact k D H' hD s1 d1
/-- over ints, the target a name -/
theorem v_lcI {a : Addr} {j : Nat} {ns : List Int} {σ2 : Int → L2.St} (p : Int → Bool) (f : Int → V) (hS : SqL K H a (ns.map V.int)) (hz : ns.length ≤ 16777215) (hσ : ∀ n, (wipe σ vs).set j (some (.int n)) = σ2 n) (hw : ∀ n ∈ ns, wipe (σ2 n) vs = wipe σ vs)
    (ht : ∀ n H', n ∈ ns → Same H H' → ∀ R : Bool → Hp → Prop, (∀ H2, Same H' H2 → R (p n) H2) → tt (σ2 n) H' R)
    (he : ∀ n H', n ∈ ns → p n = true → Same H H' → ∀ R : VK, (∀ H2, Same H' H2 → R (f n) H2) → te (σ2 n) H' R)
    (k : ∀ D H2, H D = none → Same H H2 → H2 D = some (.lst ((ns.filter p).map f)) → Q (.ref D) H2) : LcL K (gName j) tt te vs σ Q (.ref a) H :=
  v_lcG (σ2 := σ2) (H0 := H) p f hS hz (fun n H' R _ _ h => by
    show R ((wipe σ vs).set j (some (.int n))) H'
    rw [hσ]
    exact h H' (Same.refl _)) hw ht he k
theorem t_yes {H' : Hp} {R : Bool → Hp → Prop} {σ' : L2.St} (h : ∀ H2, Same H' H2 → R true H2) : tYes σ' H' R := h H' (Same.refl _)
theorem filter_yes {α : Type} (ns : List α) : ns.filter (fun _ => true) = ns := List.filter_eq_self.mpr fun _ _ => rfl
end
/-! ### defs, methods, makers by one thing each -/
structure At (K : PySem.W.Frag) (mg : Str → Option Value) (x : Str) (st : Stmt) (ps : List Str) (f : Addr) (fd : FuncData) : Prop where
  g : mg x = some (.ref f)
  F : Fun K x x st f fd
  b : Binds K fd ps []
structure FnAt (P : Program) (w : World) (K : PySem.W.Frag) (mg : Str → Option Value) (base : Heap) (CX : CXT) (k : Nat) (x : Str) (ps : List Str) (sp : Sp) (f : Addr) (fd : FuncData) : Prop where
  g : mg x = some (.ref f)
  kp : PySem.W.keepIn K (.ref f) = true
  b : Binds K fd ps []
  ok : FnOk P w K mg base CX k f fd ps sp
structure AtM (K : PySem.W.Frag) (C : Addr) (m q : Str) (st : Stmt) (ps : List Str) (f : Addr) (fd : FuncData) : Prop where
  me : Meth K C m f
  F : Fun K m q st f fd
  b : Binds K fd ps []
structure MtAt (P : Program) (w : World) (K : PySem.W.Frag) (mg : Str → Option Value) (base : Heap) (CX : CXT) (k : Nat) (C : Addr) (m : Str) (ps : List Str) (sp : Sp) (f : Addr) (fd : FuncData) : Prop where
  me : Meth K C m f
  b : Binds K fd ps []
  ok : FnOk P w K mg base CX k f fd ps sp
structure AtI (K : PySem.W.Frag) (mg : Str → Option Value) (C : Addr) (x q : Str) (st : Stmt) (ps : List Str) (f : Addr) (fd : FuncData) : Prop where
  g : mg x = some (.ref C)
  m : Mk K C f
  F : Fun K "__init__" q st f fd
  b : Binds K fd ps []
structure InAt (P : Program) (w : World) (K : PySem.W.Frag) (mg : Str → Option Value) (base : Heap) (CX : CXT) (k : Nat) (C : Addr) (x : Str) (ps : List Str) (sp : Sp) (f : Addr) (fd : FuncData) : Prop where
  g : mg x = some (.ref C)
  m : Mk K C f
  b : Binds K fd ps []
  ok : FnOk P w K mg base CX k f fd ps sp
/-- a class made without an __init__ of its own -/
structure Mk0 (K : PySem.W.Frag) (mg : Str → Option Value) (C : Addr) (x : Str) : Prop where
  g : mg x = some (.ref C)
  makes : PySem.W.makesIn K C = true
  init : PySem.W.findIn K (.ref C) "__init__" = some (some (.builtin "object.__init__"))
  kp : PySem.W.keepIn K (.ref C) = true
section
variable {X : Cx} {C : Addr} {x : Str} {p pos : PySem.Pos}
theorem run_make00 {pins : List (Addr × Obj)} {σ : L2.St} {H : Hp} {s : Shared} {Q : VK} (hm : PySem.W.makesIn X.K C = true) (hi : PySem.W.findIn X.K (.ref C) "__init__" = some (some (.builtin "object.__init__"))) (I : Inv X pins σ H s)
    (h : ∀ x dx, H x = none → H dx = none → dx ≠ x → Q (.ref x) (upd (upd H dx (.own x)) x (.ins C dx []))) : wpAny (model X.prog X.w) X.A (call (.ref C) []) (EP X pins σ Q) X.xe s := by
  have hq := h (s.heap.objs.size + 1) s.heap.objs.size (I.hok.fresh (Nat.le_succ _)) (I.hok.fresh (Nat.le_refl _)) (Nat.ne_of_lt (Nat.lt_succ_self _))
  have I2 := Inv.made (C := C) I
  have KI := I.kIn
  obtain ⟨hh, g, d, t, os⟩ := s
  have Y := PySem.W.makes_of (M := model X.prog X.w) KI hm
  refine wpAny_call (make_map0 KI hm hi (fun self => PySem.W.Looks.of_pure (PySem.W.oi_bind self)) ?_)
  have o1 : ((hh.push PySem.W.emptyDict).push (PySem.W.instObj C hh.objs.size)).get? (hh.objs.size + 1) = some (PySem.W.instObj C hh.objs.size) := by heap_get
  have t1 : PySem.W.Looks (model X.prog X.w) ((hh.push PySem.W.emptyDict).push (PySem.W.instObj C hh.objs.size)) (typeOf (.ref (hh.objs.size + 1))) (.ref C) := (PySem.W.Looks.ld o1).andThen .now
  have t2 : PySem.W.Looks (model X.prog X.w) ((hh.push PySem.W.emptyDict).push (PySem.W.instObj C hh.objs.size)) (isInstance (.ref (hh.objs.size + 1)) (.type "object")) true := t1.andThen (Y.top.keeps fun b o e => Heap.get?_push_of_some _ (Heap.get?_push_of_some _ e))
  refine codeAny_call_builtin PySem.W.oi_plain PySem.W.entry_oi (@PySem.W.check_slot (model X.prog X.w) _ _ _ "object.__init__" "object" "__init__" (.ref (hh.objs.size + 1)) [] [] _ PySem.W.oi_kind PySem.W.oi_split t2 (PySem.W.oi_args (.ref (hh.objs.size + 1))) ?_)
  rw [PySem.W.oi_run]
  exact wpAny_pure (And.intro rfl ⟨V.ref (hh.objs.size + 1), _, I2, rfl, hq⟩)
def tMake00 (C : Addr) : TE := fun _ H Q => ∀ x dx, H x = none → H dx = none → dx ≠ x → Q (.ref x) (upd (upd H dx (.own x)) x (.ins C dx []))
theorem pe_make00 (M : Mk0 X.K X.mg C x) (hg : Gl X x) (hdb : (x == ("__debug__" : Str)) = false := by decide) : PE X (.Call (.Name x p) [] [] pos) (tMake00 C) := by
  refine ⟨fun pins s σ H Q I h => ?_⟩
  refine wpAny_Call_Name_kw (ld_glob I hg M.g ?_ hdb)
  exact PySem.W.callWith_K0 I.kIn M.kp (run_make00 M.makes M.init I h)
/-- either of two readings -/
def tOr2 (t u : TE) : TE := fun σ H Q => t σ H Q ∨ u σ H Q
theorem pe_or2 {e : Expr} {t u : TE} (h : PE X e t) (k : PE X e u) : PE X e (tOr2 t u) := ⟨fun pins s σ H Q I z => z.elim (h.run pins s σ H Q I) (k.run pins s σ H Q I)⟩
end
theorem w_make00 {C : Addr} {σ : L2.St} {H : Hp} {Q : VK} (k : ∀ p dx H2, H p = none → Same H H2 → H2 p = some (.ins C dx []) → Q (.ref p) H2) : tMake00 C σ H Q := fun x dx hx hd ne =>
  k x dx _ hx (fun b o e => by rw [upd_ne (ne_of_none e hx), upd_ne (ne_of_none e hd)]; exact e) upd_same
/-- a new instance and its __init__ -/
theorem v_make {C : Addr} {vs : List V} {H : Hp} {Q : VK} {sp : Sp} {E : XK}
    (h : ∀ p dx H1, H p = none → Same H H1 → H1 p = some (.ins C dx []) → (∀ b, H1 b = none → H b = none) → sp (.ref p :: vs) H1 (fun v H2 => v = .non ∧ Q (.ref p) H2) E) :
    MkO C sp E Q vs H := fun x dx hx hd ne => by
  have s : Same H (upd (upd H dx (.own x)) x (.ins C dx [])) := fun b o e => by rw [upd_ne (ne_of_none e hx), upd_ne (ne_of_none e hd)]; exact e
  exact h x dx _ hx s upd_same fun b hb => s.free hb
/-! ### answers -/
/-- the value v, all that stood as it stood -/
def Ret (v : V) (H : Hp) (Q : VK) : Prop := ∀ H2, Same H H2 → Q v H2
/-- a new list of ints -/
def RetL (ns : List Int) (H : Hp) (Q : VK) : Prop := ∀ p H2, H p = none → Same H H2 → H2 p = some (.lst (ns.map V.int)) → Q (.ref p) H2
theorem Ret.go {v : V} {H H' : Hp} {Q : VK} (k : Ret v H Q) (e : Same H H') : Q v H' := k H' e
theorem Ret.goL {ns : List Int} {H H' H2 : Hp} {Q : VK} {p : Addr} (k : RetL ns H Q) (e : Same H H') (hp : H' p = none) (e2 : Same H' H2) (h : H2 p = some (.lst (ns.map V.int))) : Q (.ref p) H2 := k p H2 (e.free hp) (e.trans e2) h
/-! ### built-in names -/
theorem bt_len : bootBuiltins "len" = some (.builtin "len") := by decide +kernel
theorem bt_sum : bootBuiltins "sum" = some (.builtin "sum") := by decide +kernel
theorem bt_all : bootBuiltins "all" = some (.builtin "all") := by decide +kernel
theorem bt_any : bootBuiltins "any" = some (.builtin "any") := by decide +kernel
theorem bt_abs : bootBuiltins "abs" = some (.builtin "abs") := by decide +kernel
theorem bt_sorted : bootBuiltins "sorted" = some (.builtin "sorted") := by decide +kernel
theorem bt_isinstance : bootBuiltins "isinstance" = some (.builtin "isinstance") := by decide +kernel
theorem bt_int : bootBuiltins "int" = some (.type "int") := by decide +kernel
theorem bt_bool : bootBuiltins "bool" = some (.type "bool") := by decide +kernel
theorem bt_str : bootBuiltins "str" = some (.type "str") := by decide +kernel
theorem bt_list : bootBuiltins "list" = some (.type "list") := by decide +kernel
theorem bt_tuple : bootBuiltins "tuple" = some (.type "tuple") := by decide +kernel
theorem bt_set : bootBuiltins "set" = some (.type "set") := by decide +kernel
/-! ### isinstance -/
theorem v_isi {K : PySem.W.Frag} {H : Hp} {Q : VK} {x cl : V} {t u : Value} {b : Bool} (hc : ClsV cl u) (ht : TyX K H x t) (hk : PySem.W.kitOne K t u = some b) (k : Q (.bl b) H) : rIsi K [x, cl] H Q := ⟨x, cl, t, u, b, rfl, hc, ht, hk, k⟩
theorem tyx_list {K : PySem.W.Frag} {H : Hp} {a : Addr} {xs : List V} (h : SqL K H a xs) : TyX K H (.ref a) (.type "list") := by
  rcases h with (h | ⟨o, h⟩) | ⟨o, its, n, h1, h2, _⟩
  · exact .base (.lst h)
  · exact .base (.frz h)
  · exact .kList h1 h2
/-- what is known of a thing that is asked about -/
def Okd (K : PySem.W.Frag) (H : Hp) : V → Prop
  | .non => True
  | .bl _ => True
  | .int _ => True
  | .str _ => True
  | .ref a => ∃ n, TyX K H (.ref a) (.type n) ∧ (n = "list" ∨ n = "tuple" ∨ n = "dict")
  | _ => False
def isNum (x : V) (l : Int) : Bool := match x with
  | .int i => decide (l ≤ i)
  | _ => false
def isI : V → Bool
  | .int _ => true
  | .bl _ => true
  | _ => false
def isB : V → Bool
  | .bl _ => true
  | _ => false
def isI0 : V → Bool
  | .int _ => true
  | _ => false
theorem kb_bi : kitB "bool" "int" = some true := by decide +kernel
theorem kb_ii : kitB "int" "int" = some true := by decide +kernel
theorem kb_si : kitB "str" "int" = some false := by decide +kernel
theorem kb_bb : kitB "bool" "bool" = some true := by decide +kernel
theorem kb_ib : kitB "int" "bool" = some false := by decide +kernel
theorem kb_sb : kitB "str" "bool" = some false := by decide +kernel
theorem v_isInt {K : PySem.W.Frag} {H : Hp} {Q : VK} {x : V} (h : Okd K H x) (k : Q (.bl (isI x)) H) : rIsi K [x, .ty "int"] H Q := by
  cases x with
  | non => exact v_isi (.ty _) (.base .non) (kit_ty (by decide +kernel)) k
  | bl b => exact v_isi (.ty _) (.base (.bl b)) (kit_ty kb_bi) k
  | int i => exact v_isi (.ty _) (.base (.int i)) (kit_ty kb_ii) k
  | str z => exact v_isi (.ty _) (.base (.str z)) (kit_ty kb_si) k
  | ref a =>
    obtain ⟨n, ht, hn⟩ := h
    refine v_isi (.ty _) ht (kit_ty (r := false) ?_) k
    rcases hn with rfl | rfl | rfl <;> decide +kernel
  | byt _ => exact h.elim
  | flt _ => exact h.elim
  | ty _ => exact h.elim
theorem v_isBool {K : PySem.W.Frag} {H : Hp} {Q : VK} {x : V} (h : Okd K H x) (k : Q (.bl (isB x)) H) : rIsi K [x, .ty "bool"] H Q := by
  cases x with
  | non => exact v_isi (.ty _) (.base .non) (kit_ty (by decide +kernel)) k
  | bl b => exact v_isi (.ty _) (.base (.bl b)) (kit_ty kb_bb) k
  | int i => exact v_isi (.ty _) (.base (.int i)) (kit_ty kb_ib) k
  | str z => exact v_isi (.ty _) (.base (.str z)) (kit_ty kb_sb) k
  | ref a =>
    obtain ⟨n, ht, hn⟩ := h
    refine v_isi (.ty _) ht (kit_ty (r := false) ?_) k
    rcases hn with rfl | rfl | rfl <;> decide +kernel
  | byt _ => exact h.elim
  | flt _ => exact h.elim
  | ty _ => exact h.elim
/-! ### more -/
theorem kb_ll : kitB "list" "list" = some true := by decide +kernel
theorem lk1 {f : Str} {v : V} : List.lookup f [(f, v)] = some v := by simp [List.lookup]
theorem lk2a {f g : Str} {v u : V} : List.lookup f [(f, v), (g, u)] = some v := by simp [List.lookup]
theorem lk2b {f g : Str} {v u : V} (h : ¬ g = f) : List.lookup g [(f, v), (g, u)] = some u := by
  have e : (g == f) = false := by simpa using h
  simp [List.lookup, e]
theorem lk1n {f g : Str} {v : V} (h : ¬ g = f) : List.lookup g [(f, v)] = none := by
  have e : (g == f) = false := by simpa using h
  simp [List.lookup, e]
theorem lk2n {f g m : Str} {v u : V} (h : ¬ m = f) (h' : ¬ m = g) : List.lookup m [(f, v), (g, u)] = none := by
  have e : (m == f) = false := by simpa using h
  have e' : (m == g) = false := by simpa using h'
  simp [List.lookup, e, e']
theorem all_map (ns : List Int) (p : Int → Bool) : (ns.map p).all id = ns.all p := by
  rw [List.all_map]
  rfl
theorem any_map (ns : List Int) (p : Int → Bool) : (ns.map p).any id = ns.any p := by
  rw [List.any_map]
  rfl
theorem map_bl {α : Type} (ns : List α) (p : α → Bool) : ns.map (fun n => V.bl (p n)) = (ns.map p).map V.bl := by
  rw [List.map_map]
  rfl
theorem map_int {α : Type} (ns : List α) (p : α → Int) : ns.map (fun n => V.int (p n)) = (ns.map p).map V.int := by
  rw [List.map_map]
  rfl
theorem at_get {ns : List Int} {j : Int} (h0 : 0 ≤ j) (h1 : j < ns.length) : atI (ns.map V.int) j = some (.int (ns.getD j.toNat 0)) := by
  obtain ⟨i, rfl⟩ := Int.eq_ofNat_of_zero_le h0
  have hi : i < ns.length := by omega
  refine atI_nat ?_
  rw [List.getElem?_map, List.getElem?_eq_getElem hi, Int.toNat_natCast, List.getD_eq_getElem?_getD, List.getElem?_eq_getElem hi]
  rfl
theorem getD_mem {ns : List Int} {j : Nat} (h1 : j < ns.length) : ns.getD j 0 ∈ ns := by
  rw [List.getD_eq_getElem?_getD, List.getElem?_eq_getElem h1]
  exact List.getElem_mem h1
section
variable {K : PySem.W.Frag} {σ : L2.St} {H : Hp} {Q : VK} {ta te : TE} {tr : TA} {tt : TT} {g : TG} {vs : List Nat} {D : Ends} {tb : TS}
theorem v_app {l : Addr} {xs : List V} {v : V} (hl : H l = some (.lst xs)) (hz : xs.length ≤ 16777214) (k : Q .non (upd H l (.lst (xs ++ [v])))) : rAppend (.ref l) [v] H Q := ⟨l, xs, v, rfl, rfl, hl, fits_lt (by omega), k⟩
theorem v_ty {l : Addr} {xs : List V} {P : Prop} (h : SqL K H l xs) (k : P) : tyV K "list" (.ref l) H ∧ P := ⟨.inl ⟨rfl, _, h⟩, k⟩
/-- [f i for i in range(n)] -/
def LcR (g : TG) (tt : TT) (te : TE) (vs : List Nat) (σ : L2.St) (Q : VK) (ws : List V) (H1 : Hp) : Prop := ∃ j : Int, ws = [.int j] ∧ -(2 ^ 62) ≤ j ∧ j < 2 ^ 62 ∧ ∀ D, H1 D = none → ∃ W : Nat → Nat → Hp → Prop, (∃ m, W 0 m (upd H1 D (.lst []))) ∧ ∀ i m H, W i m H →
  ((Itr 0 j.toNat).stop i H ∧ Q (.ref D) H) ∨ ((Itr 0 j.toNat).go i H ∧ ∃ Nx : Hp → Prop, (∀ H', Nx H' → ∃ m', m' < m ∧ W (i + 1) m' H') ∧ ∀ x H', (Itr 0 j.toNat).yld i H x H' → g x (wipe σ vs) H' fun σ2 H2 => wipe σ2 vs = wipe σ vs ∧ tt σ2 H2 fun b H3 =>
    if b = true then te σ2 H3 fun y H4 => ∃ acc, H4 D = some (.lst acc) ∧ acc.length < sizeLine ∧ Nx (upd H4 D (.lst (acc ++ [y]))) else Nx H3)
theorem w_lcR (k : tr σ H fun x H1 => LcR g tt te vs σ Q x H1) : tLc (iRng1 tr) g tt te vs σ H Q := k
theorem v_lcR {j : Nat} {n : Int} {σ2 : Nat → L2.St} (p : Nat → Bool) (f : Nat → V) (hz : n ≤ 16777215) (h0 : 0 ≤ n) (hσ : ∀ i : Nat, (wipe σ vs).set j (some (.int (i : Int))) = σ2 i) (hw : ∀ i, wipe (σ2 i) vs = wipe σ vs)
    (ht : ∀ (i : Nat) (H' : Hp), (i : Int) < n → Same H H' → ∀ R : Bool → Hp → Prop, (∀ H2, Same H' H2 → R (p i) H2) → tt (σ2 i) H' R)
    (he : ∀ (i : Nat) (H' : Hp), (i : Int) < n → p i = true → Same H H' → ∀ R : VK, (∀ H2, Same H' H2 → R (f i) H2) → te (σ2 i) H' R)
    (k : ∀ D H2, H D = none → Same H H2 → H2 D = some (.lst (((List.range n.toNat).filter p).map f)) → Q (.ref D) H2) : LcR (gName j) tt te vs σ Q [.int n] H := by
  refine ⟨n, rfl, by omega, by omega, fun D hD => lc_range (lo := 0) (n := n.toNat) (fun i H' => Same H H' ∧ H' D = some (.lst (((List.range i).filter p).map f))) ⟨same_up hD, upd_same⟩ ?_ ?_⟩
  · intro i H' hi ⟨s1, d1⟩
    have hl : (((List.range i).filter p).map f).length < sizeLine := by
      refine fits_lt ?_
      rw [List.length_map]
      refine Nat.le_trans (List.length_filter_le _ _) ?_
      rw [List.length_range]
      omega
    have ez : (0 : Int) + (i : Int) = (i : Int) := by omega
    show wipe ((wipe σ vs).set j (some (.int ((0 : Int) + (i : Int))))) vs = wipe σ vs ∧ tt ((wipe σ vs).set j (some (.int ((0 : Int) + (i : Int))))) H' _
    rw [ez, hσ i]
    refine ⟨hw i, ?_⟩
    have hin : (i : Int) < n := by omega
    refine ht i H' hin s1 _ fun H3 s3 => ?_
    have er : (List.range (i + 1)).filter p = (List.range i).filter p ++ if p i = true then [i] else [] := by
      rw [List.range_succ, List.filter_append]
      congr 1
      cases c : p i with
      | true => simp [c]
      | false => simp [c]
    cases c : p i with
    | true =>
      rw [if_pos rfl]
      refine he i H3 hin c (s1.trans s3) _ fun H4 s4 => ?_
      rw [c, if_pos rfl] at er
      refine ⟨_, s4 _ _ (s3 _ _ d1), hl, same_mut ((s1.trans s3).trans s4) hD, ?_⟩
      rw [upd_same, er, List.map_append]
      rfl
    | false =>
      rw [if_neg Bool.false_ne_true]
      rw [c, if_neg Bool.false_ne_true, List.append_nil] at er
      exact ⟨s1.trans s3, by rw [er]; exact s3 _ _ d1⟩
  · intro H' ⟨s1, d1⟩
    exact k D H' hD s1 d1
end
theorem w_cut {t u : TS} {D : Ends} {σ : L2.St} {H : Hp} (M : L2.St → Hp → Prop) (h : t { D with nx := M } σ H) (k : ∀ σ' H', M σ' H' → u D σ' H') : Evl.tCut t u D σ H := ⟨M, h, k⟩
theorem g_pair {K : PySem.W.Frag} {i j : Nat} {t : Addr} {x y : V} {σ : L2.St} {H : Hp} {Q : L2.St → Hp → Prop} (h : SqT K H t [x, y]) (k : Q ((σ.set i (some x)).set j (some y)) H) : gTup K 2 (gCons (gName i) (gCons (gName j) gNil)) (.ref t) σ H Q :=
  ⟨t, [x, y], rfl, h, rfl, x, [y], rfl, y, [], rfl, rfl, k⟩
/-! ### sizes of the script -/
def AA : Nat := 1048576
def BB : Nat := 1048582
theorem nat_lt_bits {z : Int} (h : Builtin.Int.intBits z ≤ AA) : z.natAbs < 2 ^ AA := by
  by_cases c : z.natAbs = 0
  · rw [c]
    exact Nat.two_pow_pos _
  · unfold Builtin.Int.intBits at h
    have hz : (z == 0) = false := by simpa using fun e : z = 0 => c (by rw [e]; rfl)
    rw [hz] at h
    have h' : z.natAbs.log2 + 1 ≤ AA := h
    exact (Nat.log2_lt c).mp (by omega)
theorem sum_abs {A : Nat} : ∀ {ns : List Int}, (∀ z ∈ ns, z.natAbs < 2 ^ A) → ns.sum.natAbs ≤ ns.length * 2 ^ A
  | [], _ => by simp
  | a :: r, h => by
    have h1 := h a List.mem_cons_self
    have h2 := sum_abs (ns := r) fun z hz => h z (List.mem_cons_of_mem _ hz)
    rw [List.sum_cons, List.length_cons, Nat.add_mul, Nat.one_mul]
    have := Int.natAbs_add_le a r.sum
    omega
theorem sum_bits {ns : List Int} (hl : ns.length ≤ 63) (h : ∀ z ∈ ns, Builtin.Int.intBits z ≤ AA) : ns.sum.natAbs < 2 ^ BB := by
  have h1 := sum_abs (A := AA) fun z hz => nat_lt_bits (h z hz)
  have e : 2 ^ BB = 2 ^ AA * 64 := by
    show 2 ^ (AA + 6) = _
    rw [Nat.pow_add]
  have h2 : ns.length * 2 ^ AA ≤ 63 * 2 ^ AA := Nat.mul_le_mul_right _ hl
  have h3 := Nat.two_pow_pos AA
  rw [e]
  omega
theorem sq_mul {i : Int} (h : i.natAbs < 2 ^ BB) : CMulX i i := mulx_ok h h (by decide)
theorem kit_of {K : PySem.W.Frag} {C D : Addr} {b : Bool} (h1 : PySem.W.isClsIn K D = true) (h2 : PySem.W.typeIn K (.ref D) = some (.type "type")) (h3 : PySem.W.subIn K (.ref C) (.ref D) = some b) (h4 : PySem.W.subIn K (.ref D) (.ref D) = some true) : PySem.W.kitOne K (.ref C) (.ref D) = some b := by
  unfold PySem.W.kitOne
  by_cases e : (Value.ref C == Value.ref D) = true
  · rw [if_pos e]
    have e' : Value.ref C = Value.ref D := beq_iff_eq.mp e
    rw [e'] at h3
    exact h4.symm.trans h3
  · rw [if_neg e]
    unfold PySem.W.kitCls
    have h1' : (PySem.W.clsIn K D).isSome = true := h1
    show (if ((PySem.W.clsIn K D).isSome && PySem.W.typeIn K (.ref D) == some (.type "type")) = true then PySem.W.subIn K (.ref C) (.ref D) else none) = some b
    rw [h1', h2]
    exact (if_pos (by rfl)).trans h3
/-! ### slices in the middle, while, fields -/
theorem cut_mid {α : Type} (f : α → V) (ns : List α) {i j : Int} (h : 0 ≤ i) (h2 : i ≤ j) : cutV (ns.map f) (some i) (some j) = ((ns.drop i.toNat).take (j.toNat - i.toNat)).map f := by
  obtain ⟨a, rfl⟩ := Int.eq_ofNat_of_zero_le h
  obtain ⟨b, rfl⟩ := Int.eq_ofNat_of_zero_le (Int.le_trans h h2)
  unfold cutV
  rw [show HT.sIx (ns.map f).length 0 (some ((a : Nat) : Int)) = min a (ns.map f).length from HT.sIx_nat _ _ _, show HT.sIx (ns.map f).length (ns.map f).length (some ((b : Nat) : Int)) = min b (ns.map f).length from HT.sIx_nat _ _ _, Int.toNat_natCast, Int.toNat_natCast, List.length_map, ← List.map_drop, ← List.map_take]
  congr 1
  by_cases c : a ≤ ns.length
  · rw [Nat.min_eq_left c]
    by_cases d : b ≤ ns.length
    · rw [Nat.min_eq_left d]
    · rw [Nat.min_eq_right (by omega), List.take_of_length_le (by rw [List.length_drop]; omega), List.take_of_length_le (by rw [List.length_drop]; omega)]
  · rw [Nat.min_eq_right (show ns.length ≤ a by omega), List.drop_of_length_le (Nat.le_refl _), List.drop_of_length_le (show ns.length ≤ a by omega), List.take_nil, List.take_nil]
section
variable {K : PySem.W.Frag} {σ : L2.St} {H : Hp} {Q : VK} {a b : Int} {t : TT} {tb : TS} {D : Ends}
theorem v_sliceM {l : Addr} {ns : List Int} (h : SqL K H l (ns.map V.int)) (ha : 0 ≤ a) (hb : a ≤ b) (k : ∀ p H2, H p = none → Same H H2 → H2 p = some (.lst (((ns.drop a.toNat).take (b.toNat - a.toNat)).map V.int)) → Q (.ref p) H2) : rSlL K (.ref l) (some a) (some b) H Q :=
  v_slice h fun p H2 h1 h2 h3 => k p H2 h1 h2 (by rw [← cut_mid V.int ns ha hb]; exact h3)
theorem w_while (Pv : Nat → L2.St → Hp → Prop) (m0 : Nat) (h0 : Pv m0 σ H)
    (hs : ∀ m σ' H', Pv m σ' H' → t σ' H' fun b H1 => if b = true then ∃ N : L2.St → Hp → Prop, (∀ σ2 H2, N σ2 H2 → ∃ m', m' < m ∧ Pv m' σ2 H2) ∧ tb { D with nx := N, ct := N, bk := D.nx } σ' H1 else D.nx σ' H1) : tWhile t tb D σ H := ⟨Pv, ⟨m0, h0⟩, hs⟩
theorem v_turn {Pv : Nat → L2.St → Hp → Prop} {m : Nat} (k : tb { D with nx := fun σ2 H2 => ∃ m', m' < m ∧ Pv m' σ2 H2, ct := fun σ2 H2 => ∃ m', m' < m ∧ Pv m' σ2 H2, bk := D.nx } σ H) :
    ∃ N : L2.St → Hp → Prop, (∀ σ2 H2, N σ2 H2 → ∃ m', m' < m ∧ Pv m' σ2 H2) ∧ tb { D with nx := N, ct := N, bk := D.nx } σ H := ⟨_, fun _ _ h => h, k⟩
end
/-- the fields of an instance, set one by one -/
theorem putF_two {f g : Str} {v u : V} (h : ¬ f = g) : putF g u (putF f v []) = [(f, v), (g, u)] := by
  show (if f = g then (f, u) :: [] else (f, v) :: putF g u []) = _
  rw [if_neg h]
  rfl
theorem drop_take_one {ns : List Int} {i : Nat} {m : Int} : decide ((ns.drop i).take 1 = [m]) = decide ((ns.drop i).head? = some m) := by
  cases ns.drop i with
  | nil => simp
  | cons a r => simp
theorem v_pop0 {l : Addr} {y : V} {r : List V} {H : Hp} {Q : VK} (hl : H l = some (.lst (y :: r))) (k : Q y (upd H l (.lst r))) : rPopAt (.ref l) [.int 0] H Q :=
  ⟨l, y :: r, 0, 0, y, rfl, rfl, hl, by decide, by decide, by unfold seqIndex?; simp, rfl, k⟩
theorem v_pop {l : Addr} {y : V} {r : List V} {H : Hp} {Q : VK} (hl : H l = some (.lst (r ++ [y]))) (k : Q y (upd H l (.lst r))) : rPop (.ref l) [] H Q :=
  ⟨l, r ++ [y], y, rfl, rfl, hl, by simp, by rw [List.dropLast_concat]; exact k⟩
theorem take_one_head {ns : List Int} {m : Int} : decide (ns.take 1 = [m]) = decide (ns.head? = some m) := by
  cases ns with
  | nil => simp
  | cons a r => simp
/-! ### comprehensions over enumerate, zip -/
theorem lc_it {J : It} {n : Nat} {g : TG} {tt : TT} {te : TE} {vs : List Nat} {σ : L2.St} {H1 : Hp} {D : Addr} {Qd : Hp → Prop} (Pv : Nat → Hp → Prop) (h0 : Pv 0 (upd H1 D (.lst []))) (hgo : ∀ i H, i < n → Pv i H → J.go i H) (hst : ∀ H, Pv n H → J.stop n H)
    (hs : ∀ i x H H', i < n → Pv i H → J.yld i H x H' → g x (wipe σ vs) H' fun σ2 H2 => wipe σ2 vs = wipe σ vs ∧ tt σ2 H2 fun b H3 =>
      if b = true then te σ2 H3 fun y H4 => ∃ acc, H4 D = some (.lst acc) ∧ acc.length < sizeLine ∧ Pv (i + 1) (upd H4 D (.lst (acc ++ [y]))) else Pv (i + 1) H3) (hd : ∀ H, Pv n H → Qd H) :
    ∃ W : Nat → Nat → Hp → Prop, (∃ m, W 0 m (upd H1 D (.lst []))) ∧ ∀ i m H, W i m H →
      (J.stop i H ∧ Qd H) ∨ (J.go i H ∧ ∃ Nx : Hp → Prop, (∀ H', Nx H' → ∃ m', m' < m ∧ W (i + 1) m' H') ∧ ∀ x H', J.yld i H x H' → g x (wipe σ vs) H' fun σ2 H2 => wipe σ2 vs = wipe σ vs ∧ tt σ2 H2 fun b H3 =>
        if b = true then te σ2 H3 fun y H4 => ∃ acc, H4 D = some (.lst acc) ∧ acc.length < sizeLine ∧ Nx (upd H4 D (.lst (acc ++ [y]))) else Nx H3) := by
  refine ⟨fun i m H => m = n - i ∧ i ≤ n ∧ Pv i H, ⟨n, rfl, Nat.zero_le _, h0⟩, ?_⟩
  rintro i m H ⟨rfl, hi, p⟩
  by_cases hlt : i < n
  · exact .inr ⟨hgo i H hlt p, Pv (i + 1), fun H' p' => ⟨n - (i + 1), by omega, rfl, hlt, p'⟩, fun x H' y => hs i x H H' hlt p y⟩
  · obtain rfl : i = n := by omega
    exact .inl ⟨hst H p, hd H p⟩
def LcE (K : PySem.W.Frag) (g : TG) (tt : TT) (te : TE) (vs : List Nat) (σ : L2.St) (Q : VK) (ws : List V) (H1 : Hp) : Prop := ∃ a xs, ws = [.ref a] ∧ SqL K H1 a xs ∧ ∀ D, H1 D = none → ∃ W : Nat → Nat → Hp → Prop, (∃ m, W 0 m (upd H1 D (.lst []))) ∧ ∀ i m H, W i m H →
  ((Ite K a).stop i H ∧ Q (.ref D) H) ∨ ((Ite K a).go i H ∧ ∃ Nx : Hp → Prop, (∀ H', Nx H' → ∃ m', m' < m ∧ W (i + 1) m' H') ∧ ∀ x H', (Ite K a).yld i H x H' → g x (wipe σ vs) H' fun σ2 H2 => wipe σ2 vs = wipe σ vs ∧ tt σ2 H2 fun b H3 =>
    if b = true then te σ2 H3 fun y H4 => ∃ acc, H4 D = some (.lst acc) ∧ acc.length < sizeLine ∧ Nx (upd H4 D (.lst (acc ++ [y]))) else Nx H3)
section
variable {K : PySem.W.Frag} {σ : L2.St} {H : Hp} {Q : VK} {te : TE} {tr : TA} {g : TG} {vs : List Nat}
theorem w_lcE {tt : TT} (k : tr σ H fun x H1 => LcE K g tt te vs σ Q x H1) : tLc (iEnum K tr) g tt te vs σ H Q := k
theorem v_lcE {a : Addr} {i1 i2 : Nat} {ns : List Int} {σ2 : Nat → Int → L2.St} (Rel : Nat → Int → V → Hp → Prop) (hS : SqL K H a (ns.map V.int)) (hz : ns.length ≤ 16777215)
    (hσ : ∀ (i : Nat) n, ((wipe σ vs).set i1 (some (.int (i : Int)))).set i2 (some (.int n)) = σ2 i n) (hw : ∀ i n, wipe (σ2 i n) vs = wipe σ vs)
    (mono : ∀ i n y H1 H2, Same H1 H2 → Rel i n y H1 → Rel i n y H2) (stb : ∀ i n y H1 D xs xs', H1 D = some (.lst xs) → Rel i n y H1 → Rel i n y (upd H1 D (.lst xs')))
    (he : ∀ i n H', ns[i]? = some n → Same H H' → ∀ R : VK, (∀ y H2, Same H' H2 → Rel i n y H2 → R y H2) → te (σ2 i n) H' R)
    (k : ∀ D H2 ys, H D = none → Same H H2 → H2 D = some (.lst ys) → ys.length = ns.length → (∀ (i : Nat) n y, ns[i]? = some n → ys[i]? = some y → Rel i n y H2) → Q (.ref D) H2) :
    LcE K (gTup K 2 (gCons (gName i1) (gCons (gName i2) gNil))) tYes te vs σ Q [.ref a] H := by
  refine ⟨a, _, rfl, hS, fun D hD => lc_it (J := Ite K a) (n := ns.length) (fun i H' => Same H H' ∧ ∃ ys, H' D = some (.lst ys) ∧ ys.length = i ∧ ∀ (j : Nat) n y, ns[j]? = some n → ys[j]? = some y → Rel j n y H') ⟨same_up hD, [], upd_same, rfl, fun j n y _ h => by simp at h⟩ ?_ ?_ ?_ ?_⟩
  · rintro i H' hi ⟨s, _⟩
    exact ⟨_, _, s.seq hS, by rw [List.getElem?_map, List.getElem?_eq_getElem hi]; rfl⟩
  · rintro H' ⟨s, _⟩
    exact ⟨_, s.seq hS, by rw [List.length_map]; exact Nat.le_refl _⟩
  · rintro i x H' H'' hi ⟨s, ys, d, hl, hr⟩ ⟨T, y, rfl, nT, rfl, hy⟩
    have e := hy _ (s.seq hS)
    rw [List.getElem?_map, List.getElem?_eq_getElem hi] at e
    have e' : V.int ns[i] = y := Option.some.inj e
    subst e'
    have sT := same_up (o := .tup [.int (i : Int), .int ns[i]]) nT
    refine g_pair (st_h upd_same) ?_
    rw [hσ]
    refine ⟨hw _ _, ?_⟩
    refine w_yes ?_
    refine v_ift rfl ?_
    refine he i ns[i] _ (List.getElem?_eq_getElem hi) (s.trans sT) _ fun y H4 s4 hR => ?_
    have s4' := (s.trans sT).trans s4
    have d4 := s4 _ _ (sT _ _ d)
    refine ⟨ys, d4, fits_lt (by omega), same_mut s4' hD, ys ++ [y], upd_same, by rw [List.length_append, hl]; rfl, ?_⟩
    intro j n z hn hzz
    by_cases hj : j < ys.length
    · rw [List.getElem?_append_left hj] at hzz
      exact stb _ _ _ _ _ _ _ d4 (mono _ _ _ _ _ (sT.trans s4) (hr j n z hn hzz))
    · have hj2 : j < (ys ++ [y]).length := (List.getElem?_eq_some_iff.mp hzz).1
      rw [List.length_append, List.length_singleton] at hj2
      have hj3 : j = i := by omega
      subst hj3
      rw [List.getElem?_append_right (by omega), hl, Nat.sub_self] at hzz
      have hz2 : y = z := Option.some.inj hzz
      subst hz2
      rw [List.getElem?_eq_getElem hi] at hn
      have hn2 : ns[j] = n := Option.some.inj hn
      subst hn2
      exact stb _ _ _ _ _ _ _ d4 hR
  · rintro H' ⟨s, ys, d, hl, hr⟩
    exact k D H' ys hD s d hl hr
end
/-- a pair of ints stands at v -/
def PairAt (H : Hp) (v : V) (x y : Int) : Prop := ∃ t, v = .ref t ∧ H t = some (.tup [.int x, .int y])
theorem PairAt.same {H H' : Hp} {v : V} {x y : Int} (e : Same H H') : PairAt H v x y → PairAt H' v x y := fun ⟨t, h1, h2⟩ => ⟨t, h1, e _ _ h2⟩
theorem PairAt.stay {H : Hp} {v : V} {x y : Int} {D : Addr} {xs xs' : List V} (hD : H D = some (.lst xs)) : PairAt H v x y → PairAt (upd H D (.lst xs')) v x y := fun ⟨t, h1, h2⟩ =>
  ⟨t, h1, by rw [upd_ne (ne_of h2 hD (by intro z; cases z))]; exact h2⟩
def kf (H : Hp) : V → Int × Int
  | .ref t => match H t with
    | some (.tup [.int a, .int b]) => (a, b)
    | _ => (0, 0)
  | _ => (0, 0)
theorem PairAt.kf {H : Hp} {v : V} {x y : Int} (h : PairAt H v x y) : kf H v = (x, y) := by
  obtain ⟨t, rfl, h2⟩ := h
  unfold Wt.kf
  simp only [h2]
/-- sorted, of pairs of ints: the one list -/
theorem v_sortedP {K : PySem.W.Frag} {H : Hp} {Q : VK} {l : Addr} {xs : List V} {ps : List (Int × Int)} (h : SqL K H l xs) (hl : xs.length = ps.length) (hp : ∀ (i : Nat) v q, xs[i]? = some v → ps[i]? = some q → PairAt H v q.1 q.2)
    (k : ∀ p H2 ys, H p = none → Same H H2 → H2 p = some (.lst ys) → (∀ y ∈ ys, PairAt H2 y (kf H y).1 (kf H y).2) → ys.map (kf H) = srtP ps → Q (.ref p) H2) : rSortedPO K [.ref l] H Q := by
  have hx : xs.map (kf H) = ps := by
    refine List.ext_getElem? fun i => ?_
    rw [List.getElem?_map]
    by_cases hi : i < xs.length
    · rw [List.getElem?_eq_getElem hi, List.getElem?_eq_getElem (show i < ps.length by omega)]
      show some (kf H xs[i]) = _
      rw [(hp i _ _ (List.getElem?_eq_getElem hi) (List.getElem?_eq_getElem (show i < ps.length by omega))).kf]
    · rw [List.getElem?_eq_none (by omega), List.getElem?_eq_none (by omega)]
      rfl
  have hm : ∀ x ∈ xs, PairAt H x (kf H x).1 (kf H x).2 := by
    intro x hx2
    obtain ⟨i, hi, e⟩ := List.getElem_of_mem hx2
    have q := hp i x ps[i] (by rw [List.getElem?_eq_getElem hi, e]) (List.getElem?_eq_getElem (show i < ps.length by omega))
    rw [q.kf]
    exact q
  refine ⟨l, xs, kf H, rfl, h, fun x hx2 => hm x hx2, fun ys p hs hb hn => ?_⟩
  refine k p _ ys hn (same_up hn) upd_same (fun y hy => (hm y (hb.perm.mem_iff.mp hy)).same (same_up hn)) ?_
  rw [← hx]
  refine srtP_uniq (hb.perm.map _) ?_
  refine List.Pairwise.map _ ?_ hs
  intro x y hxy
  unfold lexLe
  by_cases c : (kf H x).1 < (kf H y).1 ∨ ((kf H x).1 = (kf H y).1 ∧ (kf H x).2 ≤ (kf H y).2)
  · exact c
  · have : SrtO.lexB (kf H y) (kf H x) = true := SrtO.lexB_iff.mpr (by omega)
    have h2 : SrtO.lexB (kf H y) (kf H x) = false := hxy
    rw [this] at h2
    cases h2
/-! ### is None, abs, two names at once -/
def rIsNone : R2 := fun x y H Q => y = .non ∧ Q (.bl (decide (x = .non))) H
theorem op_isN0 {X : Cx} : OpR X (compareOp .Is) rIsNone := op_isN
theorem v_isN {x : V} {H : Hp} {Q : VK} (k : Q (.bl (decide (x = .non))) H) : rIsNone x .non H Q := ⟨rfl, k⟩
def rAbs : List V → Hp → VK → Prop := fun xs H Q => ∃ i, xs = [.int i] ∧ Q (.int (if i < 0 then -i else i)) H
theorem call_absK {X : Cx} : CallR X (.builtin "abs") rAbs := call_abs
theorem v_abs {a : Int} {H : Hp} {Q : VK} (k : Q (.int (if a < 0 then -a else a)) H) : rAbs [.int a] H Q := ⟨a, rfl, k⟩
theorem w_par {i j : Nat} {ta : TA} {D : Ends} {σ : L2.St} {H : Hp} (k : ta σ H fun vs H1 => ∃ v w, vs = [v, w] ∧ D.nx ((σ.set i (some v)).set j (some w)) H1) : tPar i j ta D σ H := k
theorem v_par {f : L2.St → Hp → Prop} {σ : L2.St} {i j : Nat} {x y : V} {H : Hp} (k : f ((σ.set i (some x)).set j (some y)) H) : ∃ v w, [x, y] = [v, w] ∧ f ((σ.set i (some v)).set j (some w)) H := ⟨x, y, rfl, k⟩
/-- two promises of one def -/
theorem FnOk.or {P : Program} {w : World} {K : PySem.W.Frag} {mg : Str → Option Value} {base : Heap} {CX : CXT} {k : Nat} {f : Addr} {fd : FuncData} {ps : List Str} {sp sp' : Sp} (F : FnOk P w K mg base CX k f fd ps sp) (F' : FnOk P w K mg base CX k f fd ps sp') :
    FnOk P w K mg base CX k f fd ps (fun vs H Q E => sp vs H Q E ∨ sp' vs H Q E) :=
  ⟨fun vs H Q E h => h.elim (F.len vs H Q E) (F'.len vs H Q E), fun A outer s H args us vs Q E hr e0 hb hv h => h.elim (F.run A outer s H args us vs Q E hr e0 hb hv) (F'.run A outer s H args us vs Q E hr e0 hb hv)⟩
theorem kb_il : kitB "int" "list" = some false := by decide +kernel
theorem kb_it : kitB "int" "tuple" = some false := by decide +kernel
theorem kb_is : kitB "int" "str" = some false := by decide +kernel
end Wt
namespace Wt
open PySem L2 PySem.Spec PyProof.Rows
/-! ### xs[lo::st] of ints: some list of ints, no longer -/
def tStep (K : PySem.W.Frag) (te : TE) : TE := fun σ H Q => te σ H fun x H1 => ∃ (a : Addr) (ns : List Int), x = .ref a ∧ SqL K H1 a (ns.map V.int) ∧ ∀ (zs : List Int) (p : Addr), zs.length ≤ ns.length → H1 p = none → Q (.ref p) (upd H1 p (.lst (zs.map V.int)))
section
variable {X : Cx}
theorem pe_step {e : Expr} {te : TE} {lo st : Int} {k1 k2 : Nat} {p1 p2 p3 pos : PySem.Pos} (he : PE X e te) (h0 : st ≠ 0) : PE X (.Subscript e (.Slice (some (.Constant (.int lo) k1 p1)) none (some (.Constant (.int st) k2 p2)) p3) pos) (tStep X.K te) := by
  refine ⟨fun pins s σ H Q I h => ?_⟩
  refine Subscript_ (thn (he.run pins s σ H _ I h) fun v s1 ⟨x, H1, I1, r1, q1⟩ => ?_)
  obtain ⟨a, ns, ex, hx, q⟩ := q1
  subst ex
  cases r1
  have hlo : PO X (some (.Constant (.int lo) k1 p1)) (tPart (tC (.int lo))) := po_some pe_int
  have hst : PO X (some (.Constant (.int st) k2 p2)) (tPart (tC (.int st))) := po_some pe_int
  refine wpAny_Slice (thn (hlo.run pins s1 σ H1 (fun o H2 => o = some lo ∧ H2 = H1) I1 ⟨lo, rfl, rfl, rfl⟩) fun vl s2 ⟨l, H2, I2, pl, el, e2⟩ => ?_)
  subst el e2
  refine thn (po_none.run pins s2 σ H2 (fun o H3 => o = none ∧ H3 = H2) I2 ⟨rfl, rfl⟩) fun vu s3 ⟨u, H3, I3, pu, eu, e3⟩ => ?_
  subst eu e3
  refine thn (hst.run pins s3 σ H3 (fun o H4 => o = some st ∧ H4 = H3) I3 ⟨st, rfl, rfl, rfl⟩) fun vs s4 ⟨o, H4, I4, ps, eo, e4⟩ => ?_
  subst eo e4
  have I5 : Inv X pins σ H4 { s4 with heap := s4.heap.push { cls := .type "slice", data := .fields #[vl, vu, vs] } } := I4.kept (t' := s4.toks) fun b ob q => Heap.get?_push_of_some _ q
  obtain ⟨its, r, ht, hz⟩ := I5.list hx
  have hlen := r.length
  have hint : IntsAre its ns := r.ints
  show wpAny (model X.prog X.w) X.A (subscriptTail e (.Slice (some (.Constant (.int lo) k1 p1)) none (some (.Constant (.int st) k2 p2)) p3) (.ref a) (.ref s4.heap.objs.size)) (EP X pins σ Q) X.xe { s4 with heap := s4.heap.push { cls := .type "slice", data := .fields #[vl, vu, vs] } }
  refine tail_any (ops := [.ref a, .ref s4.heap.objs.size]) ht.isList.typeIs (PySem.slot_list_getitem.lookup) ?_ (by with_unfolding_all rfl)
  refine wpAny_getItem_list_slice ht.isList (Heap.IsSliceOf.new _ vl vu vs) pl pu ps (fun z => h0 (Option.some.inj z)) ?_ (by rw [List.size_toArray]; omega)
  have hp := PyProof.Rows.IntsAre.pick hint (some lo) none (some st)
  generalize PyProof.Rows.pickNums ns (some lo) none (some st) = zs at hp
  have hsz := slicePick_size_le its.toArray (some lo) none (some st)
  have hzl : zs.length ≤ ns.length := by
    have h1 := IntsAre.length hp
    rw [Array.length_toList] at h1
    have h2 : its.toArray.size = its.length := List.size_toArray ..
    rw [List.length_map] at hlen
    omega
  refine ⟨.ref _, _, I5.laid (t' := s4.toks) (o := .lst (zs.map V.int)) (fun b ob q => Heap.get?_push_of_some _ q) (Nat.le_refl _) ?_, rfl, q zs _ hzl (I5.hok.fresh (Nat.le_refl _))⟩
  refine ⟨?_, (slicePick its.toArray (some lo) none (some st)).toList, 0, vals_of_ints hp, Heap.get?_push_size _ rfl⟩
  rw [List.length_map] at hz ⊢
  omega
/-! ### for over a dict display: locked from then on -/
def tFrz (te : TE) : TE := fun σ H Q => te σ H fun x H1 => ∃ d u, x = .ref d ∧ H1 d = some u ∧ Mut (some u) ∧ ∀ o, Q x (upd H1 d (.frz o u))
theorem pe_frz {e : Expr} {te : TE} (he : PE X e te) : PE X e (tFrz te) := by
  refine ⟨fun pins s σ H Q I h => thn (he.run pins s σ H _ I h) fun v s1 ⟨x, H1, I1, r, d, u, ex, hd, mu, q⟩ => ?_⟩
  obtain ⟨od, I2⟩ := I1.lock hd mu
  exact ⟨x, _, I2, r, q od⟩
end
section
variable {K : PySem.W.Frag} {σ : L2.St} {H : Hp} {Q : VK} {te : TE} {tr : TA} {g : TG} {vs : List Nat} {tb : TS} {D : Ends}
def KFor (g : TG) (tb : TS) (D : Ends) (σ : L2.St) (x : V) (H1 : Hp) : Prop := ∃ d o, x = .ref d ∧ ((∃ kvs, H1 d = some (.frz o (.dK kvs)) ∧ ∃ W : Nat → Nat → L2.St → Hp → Prop, (∃ m, W 0 m σ H1) ∧ ∀ i m σ H, W i m σ H →
  ((Itk d o kvs).stop i H ∧ D.nx σ H) ∨ ((Itk d o kvs).go i H ∧ ∃ N : L2.St → Hp → Prop, (∀ σ' H', N σ' H' → ∃ m', m' < m ∧ W (i + 1) m' σ' H') ∧ ∀ x H', (Itk d o kvs).yld i H x H' → g x σ H' fun σ2 H2 => tb { D with nx := N, ct := N, bk := D.nx } σ2 H2)) ∨
  ∃ kvs, H1 d = some (.frz o (.dT kvs)) ∧ ∃ W : Nat → Nat → L2.St → Hp → Prop, (∃ m, W 0 m σ H1) ∧ ∀ i m σ H, W i m σ H →
  ((Itkt d o kvs).stop i H ∧ D.nx σ H) ∨ ((Itkt d o kvs).go i H ∧ ∃ N : L2.St → Hp → Prop, (∀ σ' H', N σ' H' → ∃ m', m' < m ∧ W (i + 1) m' σ' H') ∧ ∀ x H', (Itkt d o kvs).yld i H x H' → g x σ H' fun σ2 H2 => tb { D with nx := N, ct := N, bk := D.nx } σ2 H2))
theorem w_forK {td : TE} (k : td σ H fun x H1 => KFor g tb D σ x H1) : tFor (iKeys td) g tb D σ H := k
theorem w_frz {te : TE} (k : te σ H fun x H1 => ∃ d u, x = .ref d ∧ H1 d = some u ∧ Mut (some u) ∧ ∀ o, Q x (upd H1 d (.frz o u))) : tFrz te σ H Q := k
def DEnd (p : Addr) (Q : VK) (ps : List (V × V)) (H2 : Hp) : Prop := H2 p = some (.dK []) ∧ ∃ kvs : List (Key × V), ps = kvs.map (fun kv => (kV kv.1, kv.2)) ∧ kvs.length ≤ 15 ∧ Q (.ref p) (upd H2 p (.dK (mergeK [] kvs)))
theorem w_disp {trs : List (TE × TE)} (k : ∀ p H1, H p = none → Same H H1 → H1 p = some (.dK []) → tPairs trs σ H1 (DEnd p Q)) : tDisp trs σ H Q := fun p hp => k p _ hp (same_up hp) upd_same
theorem w_pcons {tk tv : TE} {r : List (TE × TE)} {R : List (V × V) → Hp → Prop} (k : tk σ H fun x H1 => tv σ H1 fun y H2 => tPairs r σ H2 fun ps H3 => R ((x, y) :: ps) H3) : tPairs ((tk, tv) :: r) σ H R := k
theorem w_pnil {R : List (V × V) → Hp → Prop} (k : R [] H) : tPairs [] σ H R := k
theorem mem_putK {kvs : List (Key × V)} {k : Key} {v : V} : ∀ e ∈ putK kvs k v, e.1 = k ∨ ∃ e' ∈ kvs, e.1 = e'.1 := by
  intro e he
  unfold putK at he
  split at he
  · obtain ⟨e', he', rfl⟩ := List.mem_map.mp he
    refine .inr ⟨e', he', ?_⟩
    split <;> rfl
  · rcases List.mem_append.mp he with he | he
    · exact .inr ⟨e, he, rfl⟩
    · rw [List.mem_singleton.mp he]
      exact .inl rfl
theorem mem_mergeK : ∀ (more kvs : List (Key × V)), ∀ e ∈ mergeK kvs more, e.1 ∈ more.map (·.1) ∨ ∃ e' ∈ kvs, e.1 = e'.1
  | [], kvs, e, he => .inr ⟨e, he, rfl⟩
  | p :: r, kvs, e, he => by
    rcases mem_mergeK r (putK kvs p.1 p.2) e he with h | ⟨e', h1, h2⟩
    · exact .inl (List.mem_cons_of_mem _ h)
    · rcases mem_putK e' h1 with h | ⟨e2, h3, h4⟩
      · exact .inl (by rw [h2, h]; exact List.mem_cons_self)
      · exact .inr ⟨e2, h3, h2.trans h4⟩
theorem v_keys {j : Nat} {p : Addr} {ps : List (V × V)} (ns : List Int) (hps : ps = ns.map fun n => (V.int n, V.bl true)) (hd : H p = some (.dK [])) (hl : ns.length ≤ 15)
    (k : ∀ H3, (∀ q x, q ≠ p → H q = some x → H3 q = some x) → ∃ Pv : L2.St → Hp → Prop, Pv σ H3 ∧ (∀ σ' H', Pv σ' H' → Same H3 H') ∧
      (∀ n σ' H', n ∈ ns → Pv σ' H' → tb { D with nx := Pv, ct := Pv, bk := D.nx } (σ'.set j (some (.int n))) H') ∧ ∀ σ' H', Pv σ' H' → D.nx σ' H') :
    DEnd p (fun x H1 => ∃ d u, x = .ref d ∧ H1 d = some u ∧ Mut (some u) ∧ ∀ o, KFor (gName j) tb D σ x (upd H1 d (.frz o u))) ps H := by
  refine ⟨hd, ns.map fun n => (.inl n, .bl true), by rw [hps, List.map_map]; rfl, by rw [List.length_map]; exact hl, ?_⟩
  have hmem : ∀ e ∈ mergeK [] (ns.map fun n => ((.inl n : Key), V.bl true)), ∃ n, e.1 = .inl n ∧ n ∈ ns := fun e he => by
    rcases mem_mergeK _ _ e he with h | h
    · rw [List.map_map] at h
      obtain ⟨n, hn, h2⟩ := List.mem_map.mp h
      exact ⟨n, h2.symm, hn⟩
    · obtain ⟨_, h, _⟩ := h
      exact nomatch h
  generalize mergeK [] (ns.map fun n => ((.inl n : Key), V.bl true)) = kvs at hmem
  refine ⟨p, _, rfl, upd_same, trivial, fun o => ?_⟩
  obtain ⟨Pv, h0, hP, hs, hdn⟩ := k (upd (upd H p (.dK kvs)) p (.frz o (.dK kvs))) fun q x hq e => by rw [upd_ne hq, upd_ne hq]; exact e
  have hz : ∀ σ' H', Pv σ' H' → H' p = some (.frz o (.dK kvs)) := fun σ' H' h => hP σ' H' h _ _ upd_same
  refine ⟨p, o, rfl, .inl ⟨kvs, upd_same, fun i m σ' H' => m = kvs.length - i ∧ i ≤ kvs.length ∧ Pv σ' H', ⟨kvs.length, rfl, Nat.zero_le _, h0⟩, ?_⟩⟩
  rintro i m σ' H' ⟨rfl, hi, pv⟩
  by_cases hlt : i < kvs.length
  · refine .inr ⟨⟨hz _ _ pv, hlt⟩, Pv, fun σ2 H2 p2 => ⟨kvs.length - (i + 1), by omega, rfl, hlt, p2⟩, ?_⟩
    rintro x H2 ⟨rfl, kk, v, hkv, rfl⟩
    obtain ⟨n, e1, e2⟩ := hmem (kk, v) (List.mem_of_getElem? hkv)
    have e1' : kk = .inl n := e1
    subst e1'
    exact hs n σ' _ e2 pv
  · obtain rfl : i = kvs.length := by omega
    exact .inl ⟨⟨hz _ _ pv, Nat.le_refl _⟩, hdn _ _ pv⟩
/-! ### [f x y for x, y in zip(xs, ys)], truths -/
def LcZ (K : PySem.W.Frag) (g : TG) (tt : TT) (te : TE) (vs : List Nat) (σ : L2.St) (Q : VK) (ws : List V) (H1 : Hp) : Prop := ∃ a b xs ys, ws = [.ref a, .ref b] ∧ SqL K H1 a xs ∧ SqL K H1 b ys ∧ ∀ D, H1 D = none → ∃ W : Nat → Nat → Hp → Prop, (∃ m, W 0 m (upd H1 D (.lst []))) ∧ ∀ i m H, W i m H →
  ((Itz K a b).stop i H ∧ Q (.ref D) H) ∨ ((Itz K a b).go i H ∧ ∃ Nx : Hp → Prop, (∀ H', Nx H' → ∃ m', m' < m ∧ W (i + 1) m' H') ∧ ∀ x H', (Itz K a b).yld i H x H' → g x (wipe σ vs) H' fun σ2 H2 => wipe σ2 vs = wipe σ vs ∧ tt σ2 H2 fun b H3 =>
    if b = true then te σ2 H3 fun y H4 => ∃ acc, H4 D = some (.lst acc) ∧ acc.length < sizeLine ∧ Nx (upd H4 D (.lst (acc ++ [y]))) else Nx H3)
theorem w_lcZ {tt : TT} (k : tr σ H fun x H1 => LcZ K g tt te vs σ Q x H1) : tLc (iZip K tr) g tt te vs σ H Q := k
theorem v_lcZ {a b : Addr} {i1 i2 : Nat} {xs ys : List Int} {σ2 : Int → Int → L2.St} (f : Int → Int → Bool) (hX : SqL K H a (xs.map V.int)) (hY : SqL K H b (ys.map V.int)) (hz : xs.length ≤ 16777215)
    (hσ : ∀ x y, ((wipe σ vs).set i1 (some (.int x))).set i2 (some (.int y)) = σ2 x y) (hw : ∀ x y, wipe (σ2 x y) vs = wipe σ vs)
    (he : ∀ x y H', Same H H' → ∀ R : VK, (∀ H2, Same H' H2 → R (.bl (f x y)) H2) → te (σ2 x y) H' R)
    (k : ∀ D H2, H D = none → Same H H2 → H2 D = some (.lst (((xs.zip ys).map fun q => f q.1 q.2).map V.bl)) → Q (.ref D) H2) :
    LcZ K (gTup K 2 (gCons (gName i1) (gCons (gName i2) gNil))) tYes te vs σ Q [.ref a, .ref b] H := by
  have hzl : (xs.zip ys).length = min xs.length ys.length := List.length_zip
  refine ⟨a, b, _, _, rfl, hX, hY, fun D hD => lc_it (J := Itz K a b) (n := (xs.zip ys).length) (fun i H' => Same H H' ∧ H' D = some (.lst ((((xs.zip ys).take i).map fun q => f q.1 q.2).map V.bl))) ⟨same_up hD, upd_same⟩ ?_ ?_ ?_ ?_⟩
  · rintro i H' hi ⟨s, _⟩
    have h1 : i < xs.length := by omega
    have h2 : i < ys.length := by omega
    exact ⟨_, _, .int xs[i], .int ys[i], s.seq hX, s.seq hY, by rw [List.getElem?_map, List.getElem?_eq_getElem h1]; rfl, by rw [List.getElem?_map, List.getElem?_eq_getElem h2]; rfl⟩
  · rintro H' ⟨s, _⟩
    exact ⟨_, _, s.seq hX, s.seq hY, by rw [List.length_map, List.length_map]; omega⟩
  · rintro i x H' H'' hi ⟨s, d⟩ ⟨T, x1, y1, rfl, nT, rfl, hx, hy⟩
    have h1 : i < xs.length := by omega
    have h2 : i < ys.length := by omega
    have e1 := hx _ (s.seq hX)
    rw [List.getElem?_map, List.getElem?_eq_getElem h1] at e1
    have e2 := hy _ (s.seq hY)
    rw [List.getElem?_map, List.getElem?_eq_getElem h2] at e2
    have e1' : V.int xs[i] = x1 := Option.some.inj e1
    have e2' : V.int ys[i] = y1 := Option.some.inj e2
    subst e1' e2'
    have sT := same_up (o := .tup [.int xs[i], .int ys[i]]) nT
    refine g_pair (st_h upd_same) ?_
    rw [hσ]
    refine ⟨hw _ _, ?_⟩
    refine w_yes ?_
    refine v_ift rfl ?_
    refine he xs[i] ys[i] _ (s.trans sT) _ fun H4 s4 => ?_
    have s4' := (s.trans sT).trans s4
    have d4 := s4 _ _ (sT _ _ d)
    refine ⟨_, d4, fits_lt (by rw [List.length_map, List.length_map, List.length_take]; omega), same_mut s4' hD, ?_⟩
    rw [upd_same, List.take_add_one, List.getElem?_eq_getElem hi, List.getElem_zip, Option.toList_some, List.map_append, List.map_append]
    rfl
  · rintro H' ⟨s, d⟩
    rw [List.take_length] at d
    exact k D H' hD s d
/-! ### lists of things put together; a list some times -/
theorem v_catV {l m : Addr} {xs ys : List V} (h : H l = some (.lst xs)) (h' : H m = some (.lst ys)) (hz : xs.length + ys.length ≤ 16777215) (k : ∀ p H2, H p = none → Same H H2 → H2 p = some (.lst (xs ++ ys)) → Q (.ref p) H2) : rCat (.ref l) (.ref m) H Q :=
  ⟨l, m, _, _, rfl, rfl, h, h', fits hz, v_new k⟩
theorem v_rep {l : Addr} {n : Int} {z : Int} (h : H l = some (.lst [.int z])) (h0 : 0 ≤ n) (h1 : n ≤ 100000) (k : ∀ p H2, H p = none → Same H H2 → H2 p = some (.lst ((List.replicate n.toNat z).map V.int)) → Q (.ref p) H2) : rRep (.ref l) (.int n) H Q := by
  have e : ∀ m : Nat, (List.replicate m [V.int z]).flatten = (List.replicate m z).map V.int := by
    intro m
    induction m with
    | zero => rfl
    | succ m ih => rw [List.replicate_succ, List.flatten_cons, ih, List.replicate_succ]; rfl
  refine ⟨l, n, _, rfl, rfl, h, by omega, by omega, fits (by simp only [List.length_cons, List.length_nil]; omega), ?_⟩
  rw [e]
  exact v_new k
end
theorem g_t4 {K : PySem.W.Frag} {i j m n : Nat} {t : Addr} {x y z u : V} {σ : L2.St} {H : Hp} {Q : L2.St → Hp → Prop} (h : SqT K H t [x, y, z, u]) (k : Q ((((σ.set i (some x)).set j (some y)).set m (some z)).set n (some u)) H) :
    gTup K 4 (gCons (gName i) (gCons (gName j) (gCons (gName m) (gCons (gName n) gNil)))) (.ref t) σ H Q :=
  ⟨t, [x, y, z, u], rfl, h, rfl, x, _, rfl, y, _, rfl, z, _, rfl, u, _, rfl, rfl, k⟩
theorem g_t5 {K : PySem.W.Frag} {i j m n o : Nat} {t : Addr} {x y z u v : V} {σ : L2.St} {H : Hp} {Q : L2.St → Hp → Prop} (h : SqT K H t [x, y, z, u, v]) (k : Q (((((σ.set i (some x)).set j (some y)).set m (some z)).set n (some u)).set o (some v)) H) :
    gTup K 5 (gCons (gName i) (gCons (gName j) (gCons (gName m) (gCons (gName n) (gCons (gName o) gNil))))) (.ref t) σ H Q :=
  ⟨t, [x, y, z, u, v], rfl, h, rfl, x, _, rfl, y, _, rfl, z, _, rfl, u, _, rfl, v, _, rfl, rfl, k⟩
end Wt
namespace Wt
open PySem L2 PySem.Spec PyProof.Rows
/-! ### [f x for x in t], t a tuple of ints -/
section
variable {K : PySem.W.Frag} {σ : L2.St} {H : Hp} {Q : VK} {te tl : TE} {tt : TT} {g : TG} {vs : List Nat}
def LcT (K : PySem.W.Frag) (g : TG) (tt : TT) (te : TE) (vs : List Nat) (σ : L2.St) (Q : VK) (x : V) (H1 : Hp) : Prop := ∃ a, x = .ref a ∧ (∃ xs, SqT K H1 a xs) ∧ ∀ D, H1 D = none → ∃ W : Nat → Nat → Hp → Prop, (∃ m, W 0 m (upd H1 D (.lst []))) ∧ ∀ i m H, W i m H →
  ((Itt K a).stop i H ∧ Q (.ref D) H) ∨ ((Itt K a).go i H ∧ ∃ Nx : Hp → Prop, (∀ H', Nx H' → ∃ m', m' < m ∧ W (i + 1) m' H') ∧ ∀ x H', (Itt K a).yld i H x H' → g x (wipe σ vs) H' fun σ2 H2 => wipe σ2 vs = wipe σ vs ∧ tt σ2 H2 fun b H3 =>
    if b = true then te σ2 H3 fun y H4 => ∃ acc, H4 D = some (.lst acc) ∧ acc.length < sizeLine ∧ Nx (upd H4 D (.lst (acc ++ [y]))) else Nx H3)
theorem w_lcT (k : tl σ H fun x H1 => LcT K g tt te vs σ Q x H1) : tLc (iTup K tl) g tt te vs σ H Q := k
theorem v_lcT {a : Addr} {j : Nat} {ns : List Int} {σ2 : Int → L2.St} (f : Int → Int) (hS : SqT K H a (ns.map V.int)) (hz : ns.length ≤ 16777215) (hσ : ∀ x, (wipe σ vs).set j (some (.int x)) = σ2 x) (hw : ∀ x, wipe (σ2 x) vs = wipe σ vs)
    (he : ∀ x H', x ∈ ns → Same H H' → ∀ R : VK, (∀ H2, Same H' H2 → R (.int (f x)) H2) → te (σ2 x) H' R)
    (k : ∀ D H2, H D = none → Same H H2 → H2 D = some (.lst ((ns.map f).map V.int)) → Q (.ref D) H2) : LcT K (gName j) tYes te vs σ Q (.ref a) H := by
  refine ⟨a, rfl, ⟨_, hS⟩, fun D hD => lc_it (J := Itt K a) (n := ns.length) (fun i H' => Same H H' ∧ H' D = some (.lst (((ns.take i).map f).map V.int))) ⟨same_up hD, upd_same⟩ ?_ ?_ ?_ ?_⟩
  · rintro i H' hi ⟨s, _⟩
    exact ⟨_, _, same_st s hS, by rw [List.getElem?_map, List.getElem?_eq_getElem hi]; rfl⟩
  · rintro H' ⟨s, _⟩
    exact ⟨_, same_st s hS, by rw [List.length_map]; exact Nat.le_refl _⟩
  · rintro i x H' H'' hi ⟨s, d⟩ ⟨rfl, hx⟩
    have e := hx _ (same_st s hS)
    rw [List.getElem?_map, List.getElem?_eq_getElem hi] at e
    have e' : V.int ns[i] = x := Option.some.inj e
    subst e'
    show wipe ((wipe σ vs).set j (some (.int ns[i]))) vs = wipe σ vs ∧ tYes ((wipe σ vs).set j (some (.int ns[i]))) H'' _
    rw [hσ]
    refine ⟨hw _, ?_⟩
    refine w_yes ?_
    refine v_ift rfl ?_
    refine he ns[i] _ (List.getElem_mem hi) s _ fun H4 s4 => ?_
    refine ⟨_, s4 _ _ d, fits_lt (by rw [List.length_map, List.length_map, List.length_take]; omega), same_mut (s.trans s4) hD, ?_⟩
    rw [upd_same, List.take_add_one, List.getElem?_eq_getElem hi, Option.toList_some, List.map_append, List.map_append]
    rfl
  · rintro H' ⟨s, d⟩
    rw [List.take_length] at d
    exact k D H' hD s d
end
end Wt
namespace Wt
open PySem L2 PySem.Spec PyProof.Rows
section
variable {K : PySem.W.Frag} {σ : L2.St} {H : Hp} {Q : VK} {te : TE}
def StepO (K : PySem.W.Frag) (Q : VK) (x : V) (H1 : Hp) : Prop := ∃ (a : Addr) (ns : List Int), x = .ref a ∧ SqL K H1 a (ns.map V.int) ∧ ∀ (zs : List Int) (p : Addr), zs.length ≤ ns.length → H1 p = none → Q (.ref p) (upd H1 p (.lst (zs.map V.int)))
theorem w_step (k : te σ H fun x H1 => StepO K Q x H1) : tStep K te σ H Q := k
theorem v_step {a : Addr} {ns : List Int} (h : SqL K H a (ns.map V.int)) (k : ∀ (zs : List Int) (p : Addr) (H2 : Hp), zs.length ≤ ns.length → H p = none → Same H H2 → H2 p = some (.lst (zs.map V.int)) → Q (.ref p) H2) : StepO K Q (.ref a) H :=
  ⟨a, ns, rfl, h, fun zs p hz hp => k zs p _ hz hp (same_up hp) upd_same⟩
end
end Wt
namespace Wt
open PySem L2 PySem.Spec PyProof.Rows
def topS (i : Nat) : Stmt := PySem.Challenge.pw_weightset_k05_answers_by_hand.main.body.getD i (.Pass ⟨0, 0, 0, 0⟩)
abbrev sIsNumber : Stmt := topS 6
abbrev sAskedSet : Stmt := topS 7
abbrev sFirstMissing : Stmt := topS 8
abbrev sLighter : Stmt := topS 9
abbrev sFirstGap : Stmt := topS 10
abbrev sWeighing : Stmt := topS 11
abbrev sWithout : Stmt := topS 12
abbrev sAllShows : Stmt := inClass (topS 15) 0
abbrev sGapInit : Stmt := inClass (topS 16) 0
abbrev sGapShows : Stmt := inClass (topS 16) 1
abbrev sBestInit : Stmt := inClass (topS 17) 0
abbrev sBestShows : Stmt := inClass (topS 17) 1
abbrev sAskedMost : Stmt := topS 19
abbrev sTold : Stmt := topS 20
abbrev sFewest : Stmt := topS 21
abbrev sLawSet : Stmt := topS 23
abbrev sLawGap : Stmt := topS 24
abbrev sLawDue : Stmt := topS 25
abbrev sLawSays : Stmt := topS 26
abbrev sLawBent : Stmt := topS 27
abbrev sLawBestRight : Stmt := topS 28
abbrev sLawPromisesRight : Stmt := topS 29
abbrev sLawFewestPromises : Stmt := topS 30
abbrev sLaw : Stmt := topS 31
theorem sc_sIsNumber : FnScope ["thing", "least"] ["thing", "least"] (defScope sIsNumber) := ⟨rfl, rfl, rfl, by decide +kernel, rfl, by decide +kernel, by decide +kernel⟩
theorem sc_sAskedSet : FnScope ["weights", "weight"] ["weights"] (defScope sAskedSet) := ⟨rfl, rfl, rfl, by decide +kernel, rfl, by decide +kernel, by decide +kernel⟩
theorem sc_sFirstMissing : FnScope ["weights", "found", "weight"] ["weights"] (defScope sFirstMissing) := ⟨rfl, rfl, rfl, by decide +kernel, rfl, by decide +kernel, by decide +kernel⟩
theorem sc_sLighter : FnScope ["weights", "number", "weight"] ["weights", "number"] (defScope sLighter) := ⟨rfl, rfl, rfl, by decide +kernel, rfl, by decide +kernel, by decide +kernel⟩
theorem sc_sFirstGap : FnScope ["weights"] ["weights"] (defScope sFirstGap) := ⟨rfl, rfl, rfl, by decide +kernel, rfl, by decide +kernel, by decide +kernel⟩
theorem sc_sWeighing : FnScope ["weights", "number", "found", "left", "weight", "place"] ["weights", "number"] (defScope sWeighing) := ⟨rfl, rfl, rfl, by decide +kernel, rfl, by decide +kernel, by decide +kernel⟩
theorem sc_sWithout : FnScope ["weights", "place"] ["weights", "place"] (defScope sWithout) := ⟨rfl, rfl, rfl, by decide +kernel, rfl, by decide +kernel, by decide +kernel⟩
theorem sc_sAllShows : FnScope ["self", "weights", "most"] ["self", "weights", "most"] (defScope sAllShows) := ⟨rfl, rfl, rfl, by decide +kernel, rfl, by decide +kernel, by decide +kernel⟩
theorem sc_sGapInit : FnScope ["self", "number"] ["self", "number"] (defScope sGapInit) := ⟨rfl, rfl, rfl, by decide +kernel, rfl, by decide +kernel, by decide +kernel⟩
theorem sc_sGapShows : FnScope ["self", "weights", "most"] ["self", "weights", "most"] (defScope sGapShows) := ⟨rfl, rfl, rfl, by decide +kernel, rfl, by decide +kernel, by decide +kernel⟩
theorem sc_sBestInit : FnScope ["self", "added", "misses"] ["self", "added", "misses"] (defScope sBestInit) := ⟨rfl, rfl, rfl, by decide +kernel, rfl, by decide +kernel, by decide +kernel⟩
theorem sc_sBestShows : FnScope ["self", "weights", "most", "order", "whole", "at", "miss", "weight"] ["self", "weights", "most"] (defScope sBestShows) := ⟨rfl, rfl, rfl, by decide +kernel, rfl, by decide +kernel, by decide +kernel⟩
theorem sc_sAskedMost : FnScope ["most"] ["most"] (defScope sAskedMost) := ⟨rfl, rfl, rfl, by decide +kernel, rfl, by decide +kernel, by decide +kernel⟩
theorem sc_sTold : FnScope ["weights", "most", "found"] ["weights", "most"] (defScope sTold) := ⟨rfl, rfl, rfl, by decide +kernel, rfl, by decide +kernel, by decide +kernel⟩
theorem sc_sFewest : FnScope ["weights", "most", "order", "found", "reach", "at"] ["weights", "most"] (defScope sFewest) := ⟨rfl, rfl, rfl, by decide +kernel, rfl, by decide +kernel, by decide +kernel⟩
theorem sc_sLawSet : FnScope ["_law_script", "_law_mixed", "_law_kind", "_law_found", "_law_whole", "_law_cell", "_law_weight", "_law_at"] ["_law_script"] (defScope sLawSet) := ⟨rfl, rfl, rfl, by decide +kernel, rfl, by decide +kernel, by decide +kernel⟩
theorem sc_sLawGap : FnScope ["_law_weights", "_law_whole", "_law_weight"] ["_law_weights"] (defScope sLawGap) := ⟨rfl, rfl, rfl, by decide +kernel, rfl, by decide +kernel, by decide +kernel⟩
theorem sc_sLawDue : FnScope ["_law_weights", "_law_most", "_law_added", "_law_misses", "_law_order", "_law_whole", "_law_ahead", "_law_miss", "_law_weight"] ["_law_weights", "_law_most", "_law_added", "_law_misses"] (defScope sLawDue) := ⟨rfl, rfl, rfl, by decide +kernel, rfl, by decide +kernel, by decide +kernel⟩
theorem sc_sLawSays : FnScope ["_law_said", "_law_due_here"] ["_law_said", "_law_due_here"] (defScope sLawSays) := ⟨rfl, rfl, rfl, by decide +kernel, rfl, by decide +kernel, by decide +kernel⟩
theorem sc_sLawBent : FnScope ["_law_some", "_law_cell", "_law_kind", "_law_at", "_law_one"] ["_law_some", "_law_cell"] (defScope sLawBent) := ⟨rfl, rfl, rfl, by decide +kernel, rfl, by decide +kernel, by decide +kernel⟩
theorem sc_sLawBestRight : FnScope ["_law_weights", "_law_most", "_law_added", "_law_misses", "_law_handed", "_law_answer"] ["_law_weights", "_law_most", "_law_added", "_law_misses"] (defScope sLawBestRight) := ⟨rfl, rfl, rfl, by decide +kernel, rfl, by decide +kernel, by decide +kernel⟩
theorem sc_sLawPromisesRight : FnScope ["_law_great", "_law_cases", "_law_weights", "_law_gap_here", "_law_number", "_law_places", "_law_most", "_law_due_here", "_law_at", "_law_one", "_law_other"] [] (defScope sLawPromisesRight) := ⟨rfl, rfl, rfl, by decide +kernel, rfl, by decide +kernel, by decide +kernel⟩
theorem sc_sLawFewestPromises : FnScope ["_law_great", "_law_cases", "_law_added", "_law_misses", "_law_weights", "_law_most", "_law_due_here"] ["_law_great"] (defScope sLawFewestPromises) := ⟨rfl, rfl, rfl, by decide +kernel, rfl, by decide +kernel, by decide +kernel⟩
theorem sc_sLaw : FnScope ["_law_script", "_law_weights", "_law_gap_here", "_law_cell", "_law_most", "_law_best", "_law_number", "_law_due_here", "_law_both", "_law_weight"] ["_law_script"] (defScope sLaw) := ⟨rfl, rfl, rfl, by decide +kernel, rfl, by decide +kernel, by decide +kernel⟩
structure Ca where
  (WeightError BadSet BadNumber BadPlace Answer All Gap Best : Addr)
structure Tx (K : PySem.W.Frag) (mg : Str → Option Value) (c : Ca) : Prop where
  z_all : mg "all" = none
  z_any : mg "any" = none
  z_bool : mg "bool" = none
  z_enumerate : mg "enumerate" = none
  z_int : mg "int" = none
  z_isinstance : mg "isinstance" = none
  z_len : mg "len" = none
  z_list : mg "list" = none
  z_range : mg "range" = none
  z_sorted : mg "sorted" = none
  z_sum : mg "sum" = none
  z_zip : mg "zip" = none
  g_All : mg "All" = some (.ref c.All)
  g_Gap : mg "Gap" = some (.ref c.Gap)
  g_Best : mg "Best" = some (.ref c.Best)
  g_Answer : mg "Answer" = some (.ref c.Answer)
  c_All : Cls K c.All
  i_All : PySem.W.findIn K (.ref c.All) "__class__" = some (some (.builtin "object.__class__"))
  o_All : PySem.W.mroIn K c.All (.type "object") = some true
  k_All_All : PySem.W.kitOne K (.ref c.All) (.ref c.All) = some true
  k_All_Gap : PySem.W.kitOne K (.ref c.All) (.ref c.Gap) = some false
  k_All_Best : PySem.W.kitOne K (.ref c.All) (.ref c.Best) = some false
  k_All_Answer : PySem.W.kitOne K (.ref c.All) (.ref c.Answer) = some true
  c_Gap : Cls K c.Gap
  n_Gap_number : NoAttr K c.Gap "number"
  i_Gap : PySem.W.findIn K (.ref c.Gap) "__class__" = some (some (.builtin "object.__class__"))
  o_Gap : PySem.W.mroIn K c.Gap (.type "object") = some true
  k_Gap_All : PySem.W.kitOne K (.ref c.Gap) (.ref c.All) = some false
  k_Gap_Gap : PySem.W.kitOne K (.ref c.Gap) (.ref c.Gap) = some true
  k_Gap_Best : PySem.W.kitOne K (.ref c.Gap) (.ref c.Best) = some false
  k_Gap_Answer : PySem.W.kitOne K (.ref c.Gap) (.ref c.Answer) = some true
  c_Best : Cls K c.Best
  n_Best_added : NoAttr K c.Best "added"
  n_Best_misses : NoAttr K c.Best "misses"
  i_Best : PySem.W.findIn K (.ref c.Best) "__class__" = some (some (.builtin "object.__class__"))
  o_Best : PySem.W.mroIn K c.Best (.type "object") = some true
  k_Best_All : PySem.W.kitOne K (.ref c.Best) (.ref c.All) = some false
  k_Best_Gap : PySem.W.kitOne K (.ref c.Best) (.ref c.Gap) = some false
  k_Best_Best : PySem.W.kitOne K (.ref c.Best) (.ref c.Best) = some true
  k_Best_Answer : PySem.W.kitOne K (.ref c.Best) (.ref c.Answer) = some true
  dsp : PySem.W.specialIn K (.builtin "object.__class__") "__get__" = some (some (.builtin "getset_descriptor.__get__"))
  tks : PySem.W.takesIn K (.builtin "object.__class__") = some true
/-! ### steps -/
local macro_rules | `(tactic| wtm_at "hp") => `(tactic| first | assumption | (refine same_at (by assumption) ?_; wtm_at "hp"))
local macro_rules | `(tactic| wtm_at "sq") => `(tactic| first | assumption | (refine sq_h ?_; wtm_at "hp") | (refine same_sq (by assumption) ?_; wtm_at "sq"))
local macro_rules | `(tactic| wtm_at "st") => `(tactic| first | assumption | (refine st_h ?_; wtm_at "hp") | (refine same_st (by assumption) ?_; wtm_at "st"))
local macro_rules | `(tactic| wtm_at "set") => `(tactic| first | exact set_0 | (refine set_s ?_; wtm_at "set"))
local macro_rules | `(tactic| wtm_at "w1") => `(tactic| first
  | ((with_reducible refine w_var (v := ?v) ?h ?k); (case h => exact rfl))
  | (with_reducible refine w_c ?_)
  | (with_reducible refine w_op ?_)
  | (with_reducible refine v_I0 ?_)
  | (with_reducible refine w_cons ?_)
  | (with_reducible refine w_nil ?_)
  | (with_reducible refine w_seq ?_)
  | (with_reducible refine w_asg ?_)
  | ((with_reducible refine w_nx (σ' := ?s) ?h ?k); (case h => wtm_at "set"))
  | (with_reducible refine w_test ?_)
  | (with_reducible refine v_b ?_)
  | (with_reducible refine w_call ?_)
  | (with_reducible refine w_cb ?_)
  | (with_reducible refine w_B ?_)
  | (with_reducible refine w_or ?_)
  | (with_reducible refine w_and ?_)
  | (with_reducible refine w_not ?_)
  | (with_reducible refine w_ifS ?_)
  | (with_reducible refine w_ret ?_)
  | (with_reducible refine w_drop ?_)
  | (with_reducible refine w_next ?_)
  | (with_reducible refine v_eqI ?_)
  | (with_reducible refine v_neI ?_)
  | (with_reducible refine w_lst ?_)
  | (with_reducible refine w_tup ?_)
  | (with_reducible refine w_fld ?_)
  | (with_reducible refine w_meth ?_)
  | (with_reducible refine w_make ?_)
  | (with_reducible refine w_for ?_)
  | (with_reducible refine w_lc ?_)
  | (with_reducible refine w_sl ?_)
  | (with_reducible refine w_part ?_)
  | (with_reducible refine w_nopart ?_)
  | (with_reducible refine v_i ?_)
  | (with_reducible refine w_chain ?_)
  | (with_reducible refine w_un ?_)
  | (with_reducible refine v_U ?_)
  | (with_reducible refine w_andV ?_)
  | (with_reducible refine w_orV ?_)
  | (with_reducible refine w_notV ?_)
  | (with_reducible refine w_ifE ?_)
  | (with_reducible refine w_bm ?_)
  | (with_reducible refine w_bm0 ?_)
  | (with_reducible refine w_rev ?_)
  | (with_reducible refine w_flds ?_)
  | ((with_reducible refine v_I ?c ?k); (case c => first | (with_reducible assumption) | ((with_reducible show (0 : Int) < _); omega) | (unfold CDiv; decide) | (unfold CPow; decide) | (unfold CDiv; constructor <;> omega) | (unfold CPow; exact ⟨by omega, by omega, by omega⟩))))

local macro_rules | `(tactic| wtm_at "w1") => `(tactic| first
  | ((with_reducible refine v_fld (C := ?C) (dx := ?dx) (fs := ?fs) (v := ?v) ?h ?hc ?hn ?hl ?k); (case h => wtm_at "hp"); (case hc => assumption); (case hn => assumption); (case hl => first | assumption | exact lk1 | exact lk2a | exact lk2b (by decide +kernel)))
  | ((with_reducible refine v_sum (ns := ?ns) ?h ?k); (case h => wtm_at "sq"))
  | ((with_reducible refine v_len (ns := ?ns) ?h ?k); (case h => wtm_at "sq"))
  | ((with_reducible refine v_in (ns := ?ns) ?h ?k); (case h => wtm_at "sq"))
  | (with_reducible refine w_lcR ?_)
  | (with_reducible refine w_lcE ?_)
  | (with_reducible refine w_par ?_)
  | (with_reducible refine v_par ?_)
  | (with_reducible refine v_isN ?_)
  | (with_reducible refine v_abs ?_)
  | (with_reducible refine v_eqB ?_)
  | (with_reducible refine v_neB ?_)
  | ((with_reducible refine v_ixL (xs := ?xs) (v := ?v) ?h ?e ?k); (case h => wtm_at "sq"); (case e => exact at_get (by omega) (by omega))))
local macro_rules | `(tactic| wtm_at "w") => `(tactic| repeat wtm_at "w1")
theorem w_start {t : TS} {D : Ends} {N : List Str} {vs : List V} {σ : L2.St} {H : Hp} (h : start N vs = σ) (k : t D σ H) : t D (start N vs) H := h ▸ k
section
variable {P : Program} {w : World} {K : PySem.W.Frag} {mg : Str → Option Value} {base : Heap} {c : Ca}
/-! ### is_number -/
def sp_is_number (K : PySem.W.Frag) (_ : Ca) : Sp := fun vs H Q _ => ∃ x l, vs = [x, .int l] ∧ Okd K H x ∧ Ret (.bl (isNum x l)) H Q
theorem c_is_number {x : V} {l : Int} {H : Hp} {Q : VK} {E : XK} (h : Okd K H x) (k : ∀ H2, Same H H2 → Q (.bl (isNum x l)) H2) : sp_is_number K c [x, .int l] H Q E := ⟨x, l, rfl, h, k⟩
theorem ok_is_number {f : Addr} {fd : FuncData} (A : At K mg "is_number" sIsNumber ["thing", "least"] f fd) (T : Tx K mg c) : FnAt P w K mg base CX0 1 "is_number" ["thing", "least"] (sp_is_number K c) f fd := by
  refine ⟨A.g, A.F.kp, A.b, A.F.ok sc_sIsNumber (fun vs H Q E h => ?_) (fun cdv Ar outer s H vs Q E hr h => ?_)⟩
  · obtain ⟨x, l, rfl, _⟩ := h
    rfl
  · obtain ⟨x, l, rfl, ho, k⟩ := h
    refine ⟨(tRet (tAndV (tCB (rIsi K) (tCons (tVar 0) (tCons (tC (.ty "int")) tNil))) (tAndV (tNotV (tCB (rIsi K) (tCons (tVar 0) (tCons (tC (.ty "bool")) tNil)))) (tOp (rI0 fun i j => .bl (decide (j ≤ i))) (tVar 0) (tVar 1))))), (pss_one (ps_ret (pe_and (pe_callB call_isi (by rfl) T.z_isinstance bt_isinstance (pa_cons (pv 0) (pa_cons (pe_bltn (v := .ty "int") (by rfl) T.z_int bt_int rfl) pa_nil))) (pe_and (pe_not (pe_callB call_isi (by rfl) T.z_isinstance bt_isinstance (pa_cons (pv 0) (pa_cons (pe_bltn (v := .ty "bool") (by rfl) T.z_bool bt_bool rfl) pa_nil)))) (pe_one (pe_cmpR op_ge (pv 0) (pv 1) (nomark _))))))), ?_⟩
    refine w_start (σ := [some _, some _]) rfl ?_
    wtm_at "w"
    refine v_isInt ho ?_
    wtm_at "w"
    refine v_andV (d := !isB x && isNum x l) (fun hI q hq => ?_) (fun H2 s2 => ?_)
    · wtm_at "w"
      refine v_isBool ho ?_
      wtm_at "w"
      refine v_andV (d := isNum x l) (fun hB q' hq' => ?_) (fun H2 s2 => hq H2 s2)
      have hx : ∃ i, x = .int i := by
        cases x with
        | int i => exact ⟨i, rfl⟩
        | non => cases hI
        | bl b => cases hB
        | str z => cases hI
        | byt z => cases hI
        | flt z => cases hI
        | ref z => cases hI
        | ty z => cases hI
      obtain ⟨i, rfl⟩ := hx
      wtm_at "w"
      exact hq' _ (Same.refl _)
    · have e : (isI x && (!isB x && isNum x l)) = isNum x l := by
        cases x <;> first | rfl | (unfold isI isB isNum; simp)
      rw [e]
      exact k H2 s2
/-! ### asked_set, of a set -/
def sp_asked_set (K : PySem.W.Frag) (_ : Ca) : Sp := fun vs H Q _ => ∃ a ns, vs = [.ref a] ∧ SqL K H a (ns.map V.int) ∧ Pos ns ∧ ns.length ≤ 16777215 ∧ Ret .non H Q
theorem c_asked_set {a : Addr} {ns : List Int} {H : Hp} {Q : VK} {E : XK} (h : SqL K H a (ns.map V.int)) (hp : Pos ns) (hz : ns.length ≤ 16777215) (k : ∀ H2, Same H H2 → Q .non H2) : sp_asked_set K c [.ref a] H Q E := ⟨a, ns, rfl, h, hp, hz, k⟩
theorem ok_asked_set {f f0 : Addr} {fd fd0 : FuncData} (A : At K mg "asked_set" sAskedSet ["weights"] f fd) (T : Tx K mg c) (G_is_number : FnAt P w K mg base CX0 1 "is_number" ["thing", "least"] (sp_is_number K c) f0 fd0) : FnAt P w K mg base CX0 2 "asked_set" ["weights"] (sp_asked_set K c) f fd := by
  refine ⟨A.g, A.F.kp, A.b, A.F.ok sc_sAskedSet (fun vs H Q E h => ?_) (fun cdv Ar outer s H vs Q E hr h => ?_)⟩
  · obtain ⟨a, ns, rfl, _⟩ := h
    rfl
  · obtain ⟨a, ns, rfl, hS, hp, hz, k⟩ := h
    refine ⟨(tIfS (tOr (tNot (tB (tCB (rIsi K) (tCons (tVar 0) (tCons (tC (.ty "list")) tNil))))) (tNot (tB (tCB (rAll K) (tCons (tLc (iList K (tVar 0)) (gName 1) tYes (tCall (sp_is_number K c) [] E0 (tCons (tVar 1) (tCons (tC (.int 1)) tNil))) [1]) tNil))))) tNever tNext), (pss_one (ps_if (PW.pt (pw_or (pt_not (pt_val (pe_callB call_isi (by rfl) T.z_isinstance bt_isinstance (pa_cons (pv 0) (pa_cons (pe_bltn (v := .ty "list") (by rfl) T.z_list bt_list rfl) pa_nil))))) (pw_or1 (pt_not (pt_val (pe_callB (cr_all rfl) (by rfl) T.z_all bt_all (pa_cons (pe_lc (own := [("weight", 1)]) (g := gName 1) (tt := tYes) (te := (tCall (sp_is_number K c) [] E0 (tCons (tVar 1) (tCons (tC (.int 1)) tNil)))) rfl sc_sAskedSet.nd (pi_list (pv 0)) (blkOk_by (N := ["weights", "weight"]) (sc := defScope sAskedSet) (by decide +kernel)) (fun _ _ _ _ _ => (pg_name (i := 1) sc_sAskedSet.nd rfl (Or.inl rfl))) (fun _ _ _ _ _ => pts_nil) (fun _ _ _ _ _ => (pe_call G_is_number.ok (hr.mono (by decide)) (by rfl) G_is_number.g G_is_number.kp G_is_number.b .nil pass0 (pa_cons (pv 1) (pa_cons pe_int pa_nil))))) pa_nil))))))) (pss_one ps_never) pss_nil)), ?_⟩
    refine w_start (σ := [some _, none]) rfl ?_
    wtm_at "w"
    refine v_isi (.ty _) (tyx_list hS) (kit_ty kb_ll) ?_
    wtm_at "w"
    refine v_iff rfl ?_
    wtm_at "w"
    refine v_lcI (σ2 := fun n => [some (.ref a), some (.int n)]) (fun _ => true) (fun n => .bl (decide (1 ≤ n))) hS hz (fun _ => rfl) (fun _ _ => rfl) (fun n H' _ _ R h => t_yes h) (fun n H' hn _ s1 R h => ?_) (fun D H2 hD s2 d2 => ?_)
    · wtm_at "w"
      exact c_is_number trivial h
    · rw [filter_yes, map_bl] at d2
      wtm_at "w"
      refine v_all (sq_h d2) ?_
      wtm_at "w"
      rw [all_map, show (ns.all fun n => decide (1 ≤ n)) = true from List.all_eq_true.mpr fun x hx => decide_eq_true (hp x hx)]
      refine v_iff rfl ?_
      wtm_at "w"
      exact k _ s2
/-! ### first_missing -/
def sp_first_missing (K : PySem.W.Frag) (_ : Ca) : Sp := fun vs H Q _ => ∃ a ns, vs = [.ref a] ∧ SqL K H a (ns.map V.int) ∧ Ret (.int (fm ns)) H Q
theorem c_first_missing {a : Addr} {ns : List Int} {H : Hp} {Q : VK} {E : XK} (h : SqL K H a (ns.map V.int)) (k : ∀ H2, Same H H2 → Q (.int (fm ns)) H2) : sp_first_missing K c [.ref a] H Q E := ⟨a, ns, rfl, h, k⟩
theorem ok_first_missing {f : Addr} {fd : FuncData} (A : At K mg "first_missing" sFirstMissing ["weights"] f fd) (T : Tx K mg c) : FnAt P w K mg base CX0 1 "first_missing" ["weights"] (sp_first_missing K c) f fd := by
  refine ⟨A.g, A.F.kp, A.b, A.F.ok sc_sFirstMissing (fun vs H Q E h => ?_) (fun cdv Ar outer s H vs Q E hr h => ?_)⟩
  · obtain ⟨a, ns, rfl, _⟩ := h
    rfl
  · obtain ⟨a, ns, rfl, hS, k⟩ := h
    refine ⟨(tSeq (tAsg (tC (.int 1)) (gName 1))
  (tSeq (tFor (iList K (tCB (rSortedI K) (tCons (tVar 0) tNil))) (gName 2) (tIfS (tTest (tOp (rI0 fun i j => .bl (decide (i ≤ j))) (tVar 2) (tVar 1))) (tAsg (tOp (rI0 fun i j => .int (i + j)) (tVar 1) (tVar 2)) (gName 1)) tNext))
  (tRet (tVar 1)))), (pss_cons (ps_set (i := 1) sc_sFirstMissing.nd rfl (Or.inl rfl) pe_int)
  (pss_cons (ps_for PassesOwn.never rfl (pi_list (pe_callB cr_sortedI (by rfl) T.z_sorted bt_sorted (pa_cons (pv 0) pa_nil))) (pg_name (i := 2) sc_sFirstMissing.nd rfl (Or.inl rfl)) (pss_one (ps_if (pt_cmpR op_le (pv 2) (pv 1) (nomark _)) (pss_one (ps_set (i := 1) sc_sFirstMissing.nd rfl (Or.inl rfl) (pe_op op_add (pv 1) (pv 2)))) pss_nil)))
  (pss_one (ps_ret (pv 1))))), ?_⟩
    refine w_start (σ := [some _, none, none]) rfl ?_
    wtm_at "w"
    refine v_sorted hS fun p H2 hp s2 d2 => ?_
    refine v_forI (sq_h d2) (fun r σ' H' => ∃ (f : Int) (y : Option V), σ' = [some (.ref a), some (.int f), y] ∧ r.foldl fstep f = fm ns ∧ Same H2 H') ⟨1, none, rfl, rfl, Same.refl _⟩ (fun r σ' H' h => h.choose_spec.choose_spec.2.2.seq (sq_h d2)) ?_ ?_
    · rintro pre n r σ' H' _ ⟨f, y, rfl, e, s⟩
      wtm_at "w"
      refine v_if (fun hc => ?_) (fun hc => ?_)
      · wtm_at "w"
        refine ⟨f + n, _, rfl, ?_, s⟩
        rw [← e]
        show _ = r.foldl fstep (fstep f n)
        rw [show fstep f n = f + n from if_pos (of_decide_eq_true hc)]
      · wtm_at "w"
        refine ⟨f, _, rfl, ?_, s⟩
        rw [← e]
        show _ = r.foldl fstep (fstep f n)
        rw [show fstep f n = f from if_neg (of_decide_eq_false hc)]
    · rintro σ' H' ⟨f, y, rfl, e, s⟩
      wtm_at "w"
      have e' : f = fm ns := e
      rw [e']
      exact k _ (s2.trans s)
/-! ### lighter -/
def sp_lighter (K : PySem.W.Frag) (_ : Ca) : Sp := fun vs H Q _ => ∃ a ns x, vs = [.ref a, .int x] ∧ SqL K H a (ns.map V.int) ∧ ns.length ≤ 16777215 ∧ Ret (.int (slt x ns)) H Q
theorem c_lighter {a : Addr} {ns : List Int} {x : Int} {H : Hp} {Q : VK} {E : XK} (h : SqL K H a (ns.map V.int)) (hz : ns.length ≤ 16777215) (k : ∀ H2, Same H H2 → Q (.int (slt x ns)) H2) : sp_lighter K c [.ref a, .int x] H Q E := ⟨a, ns, x, rfl, h, hz, k⟩
theorem ok_lighter {f : Addr} {fd : FuncData} (A : At K mg "lighter" sLighter ["weights", "number"] f fd) (T : Tx K mg c) : FnAt P w K mg base CX0 1 "lighter" ["weights", "number"] (sp_lighter K c) f fd := by
  refine ⟨A.g, A.F.kp, A.b, A.F.ok sc_sLighter (fun vs H Q E h => ?_) (fun cdv Ar outer s H vs Q E hr h => ?_)⟩
  · obtain ⟨a, ns, x, rfl, _⟩ := h
    rfl
  · obtain ⟨a, ns, x, rfl, hS, hz, k⟩ := h
    refine ⟨(tRet (tCB (rSum K) (tCons (tLc (iList K (tVar 0)) (gName 2) (tTest (tOp (rI0 fun i j => .bl (decide (i < j))) (tVar 2) (tVar 1))) (tVar 2) [2]) tNil))), (pss_one (ps_ret (pe_callB (cr_sum rfl) (by rfl) T.z_sum bt_sum (pa_cons (pe_lc (own := [("weight", 2)]) (g := gName 2) (tt := (tTest (tOp (rI0 fun i j => .bl (decide (i < j))) (tVar 2) (tVar 1)))) (te := (tVar 2)) rfl sc_sLighter.nd (pi_list (pv 0)) (blkOk_by (N := ["weights", "number", "weight"]) (sc := defScope sLighter) (by decide +kernel)) (fun _ _ _ _ _ => (pg_name (i := 2) sc_sLighter.nd rfl (Or.inl rfl))) (fun _ _ _ _ _ => (pts_one (pt_cmpR op_lt (pv 2) (pv 1) (nomark _)))) (fun _ _ _ _ _ => (pv 2))) pa_nil)))), ?_⟩
    refine w_start (σ := [some _, some _, none]) rfl ?_
    wtm_at "w"
    refine v_lcI (σ2 := fun n => [some (.ref a), some (.int x), some (.int n)]) (fun n => decide (n < x)) V.int hS hz (fun _ => rfl) (fun _ _ => rfl) (fun n H' hn _ R h => ?_) (fun n H' hn _ s1 R h => ?_) (fun D H2 hD s2 d2 => ?_)
    · wtm_at "w"
      exact h _ (Same.refl _)
    · wtm_at "w"
      exact h _ (Same.refl _)
    · wtm_at "w"
      exact k _ s2
/-! ### first_gap -/
def sp_first_gap (K : PySem.W.Frag) (_ : Ca) : Sp := fun vs H Q _ => ∃ a ns, vs = [.ref a] ∧ SqL K H a (ns.map V.int) ∧ Pos ns ∧ ns.length ≤ 16777215 ∧ Ret (.int (fm ns)) H Q
theorem c_first_gap {a : Addr} {ns : List Int} {H : Hp} {Q : VK} {E : XK} (h : SqL K H a (ns.map V.int)) (hp : Pos ns) (hz : ns.length ≤ 16777215) (k : ∀ H2, Same H H2 → Q (.int (fm ns)) H2) : sp_first_gap K c [.ref a] H Q E := ⟨a, ns, rfl, h, hp, hz, k⟩
theorem ok_first_gap {f f0 f1 : Addr} {fd fd0 fd1 : FuncData} (A : At K mg "first_gap" sFirstGap ["weights"] f fd) (T : Tx K mg c) (G_asked_set : FnAt P w K mg base CX0 2 "asked_set" ["weights"] (sp_asked_set K c) f0 fd0) (G_first_missing : FnAt P w K mg base CX0 1 "first_missing" ["weights"] (sp_first_missing K c) f1 fd1) : FnAt P w K mg base CX0 3 "first_gap" ["weights"] (sp_first_gap K c) f fd := by
  refine ⟨A.g, A.F.kp, A.b, A.F.ok sc_sFirstGap (fun vs H Q E h => ?_) (fun cdv Ar outer s H vs Q E hr h => ?_)⟩
  · obtain ⟨a, ns, rfl, _⟩ := h
    rfl
  · obtain ⟨a, ns, rfl, hS, hp, hz, k⟩ := h
    refine ⟨(tSeq (tDrop (tCall (sp_asked_set K c) [] E0 (tCons (tVar 0) tNil)))
  (tRet (tCall (sp_first_missing K c) [] E0 (tCons (tVar 0) tNil)))), (pss_cons (ps_expr (pe_call G_asked_set.ok (hr.mono (by decide)) (by rfl) G_asked_set.g G_asked_set.kp G_asked_set.b .nil pass0 (pa_cons (pv 0) pa_nil)))
  (pss_one (ps_ret (pe_call G_first_missing.ok (hr.mono (by decide)) (by rfl) G_first_missing.g G_first_missing.kp G_first_missing.b .nil pass0 (pa_cons (pv 0) pa_nil))))), ?_⟩
    refine w_start (σ := [some _]) rfl ?_
    wtm_at "w"
    refine c_asked_set hS hp hz fun H2 s2 => ?_
    wtm_at "w"
    refine c_first_missing (s2.seq hS) fun H3 s3 => ?_
    exact k _ (s2.trans s3)
/-! ### the answers -/
def gapB (ns : List Int) (m g : Int) : Bool := if ¬ (1 ≤ g ∧ g ≤ m) ∨ g ∈ ns then false else decide (slt g ns < g)
def sp_All_shows (K : PySem.W.Frag) (_ : Ca) : Sp := fun vs H Q _ => ∃ o a ns m, vs = [.ref o, .ref a, .int m] ∧ SqL K H a (ns.map V.int) ∧ Ret (.bl (decide (m < fm ns))) H Q
theorem c_All_shows {o a : Addr} {ns : List Int} {m : Int} {H : Hp} {Q : VK} {E : XK} (h : SqL K H a (ns.map V.int)) (k : ∀ H2, Same H H2 → Q (.bl (decide (m < fm ns))) H2) : sp_All_shows K c [.ref o, .ref a, .int m] H Q E := ⟨o, a, ns, m, rfl, h, k⟩
theorem ok_All_shows {f f0 : Addr} {fd fd0 : FuncData} (A : AtM K c.All "shows" "All.shows" sAllShows ["self", "weights", "most"] f fd) (T : Tx K mg c) (G_first_missing : FnAt P w K mg base CX0 1 "first_missing" ["weights"] (sp_first_missing K c) f0 fd0) : MtAt P w K mg base CX0 2 c.All "shows" ["self", "weights", "most"] (sp_All_shows K c) f fd := by
  refine ⟨A.me, A.b, A.F.ok sc_sAllShows (fun vs H Q E h => ?_) (fun cdv Ar outer s H vs Q E hr h => ?_)⟩
  · obtain ⟨o, a, ns, m, rfl, _⟩ := h
    rfl
  · obtain ⟨o, a, ns, m, rfl, hS, k⟩ := h
    refine ⟨(tRet (tOp (rI0 fun i j => .bl (decide (j < i))) (tCall (sp_first_missing K c) [] E0 (tCons (tVar 1) tNil)) (tVar 2))), (pss_one (ps_ret (pe_cmpR op_gt (pe_call G_first_missing.ok (hr.mono (by decide)) (by rfl) G_first_missing.g G_first_missing.kp G_first_missing.b .nil pass0 (pa_cons (pv 1) pa_nil)) (pv 2) (nomark _)))), ?_⟩
    refine w_start (σ := [some _, some _, some _]) rfl ?_
    wtm_at "w"
    refine c_first_missing hS fun H2 s2 => ?_
    wtm_at "w"
    exact k _ s2
def sp_Gap_init (_ : PySem.W.Frag) (c : Ca) : Sp := fun vs H Q _ => ∃ p dx g, vs = [.ref p, .int g] ∧ H p = some (.ins c.Gap dx []) ∧ Q .non (upd H p (.ins c.Gap dx [("number", .int g)]))
theorem c_Gap_init {p dx : Addr} {g : Int} {H : Hp} {Q : VK} {E : XK} (h : H p = some (.ins c.Gap dx [])) (k : Q .non (upd H p (.ins c.Gap dx [("number", .int g)]))) : sp_Gap_init K c [.ref p, .int g] H Q E := ⟨p, dx, g, rfl, h, k⟩
theorem ok_Gap_init {f : Addr} {fd : FuncData} (A : AtI K mg c.Gap "Gap" "Gap.__init__" sGapInit ["self", "number"] f fd) (T : Tx K mg c) : InAt P w K mg base CX0 1 c.Gap "Gap" ["self", "number"] (sp_Gap_init K c) f fd := by
  refine ⟨A.g, A.m, A.b, A.F.ok sc_sGapInit (fun vs H Q E h => ?_) (fun cdv Ar outer s H vs Q E hr h => ?_)⟩
  · obtain ⟨p, dx, g, rfl, _⟩ := h
    rfl
  · obtain ⟨p, dx, g, rfl, hp, k⟩ := h
    refine ⟨(sFld K (tVar 0) (tVar 1) "number"), (pss_one (ps_fld (pv 0) (pv 1) rfl)), ?_⟩
    refine w_start (σ := [some _, some _]) rfl ?_
    wtm_at "w"
    exact ⟨p, _, dx, [], rfl, hp, T.c_Gap, T.n_Gap_number, by decide, k⟩
def sp_Gap_shows (K : PySem.W.Frag) (c : Ca) : Sp := fun vs H Q _ => ∃ o dx g a ns m, vs = [.ref o, .ref a, .int m] ∧ H o = some (.ins c.Gap dx [("number", .int g)]) ∧ SqL K H a (ns.map V.int) ∧ ns.length ≤ 16777215 ∧ Ret (.bl (gapB ns m g)) H Q
theorem c_Gap_shows {o a dx : Addr} {g : Int} {ns : List Int} {m : Int} {H : Hp} {Q : VK} {E : XK} (ho : H o = some (.ins c.Gap dx [("number", .int g)])) (h : SqL K H a (ns.map V.int)) (hz : ns.length ≤ 16777215) (k : ∀ H2, Same H H2 → Q (.bl (gapB ns m g)) H2) : sp_Gap_shows K c [.ref o, .ref a, .int m] H Q E := ⟨o, dx, g, a, ns, m, rfl, ho, h, hz, k⟩
theorem ok_Gap_shows {f f0 : Addr} {fd fd0 : FuncData} (A : AtM K c.Gap "shows" "Gap.shows" sGapShows ["self", "weights", "most"] f fd) (T : Tx K mg c) (G_lighter : FnAt P w K mg base CX0 1 "lighter" ["weights", "number"] (sp_lighter K c) f0 fd0) : MtAt P w K mg base CX0 2 c.Gap "shows" ["self", "weights", "most"] (sp_Gap_shows K c) f fd := by
  refine ⟨A.me, A.b, A.F.ok sc_sGapShows (fun vs H Q E h => ?_) (fun cdv Ar outer s H vs Q E hr h => ?_)⟩
  · obtain ⟨o, dx, g, a, ns, m, rfl, _⟩ := h
    rfl
  · obtain ⟨o, dx, g, a, ns, m, rfl, ho, hS, hz, k⟩ := h
    have hcG := T.c_Gap
    have hnG := T.n_Gap_number
    refine ⟨(tSeq (tIfS (tOr (tNot (tTest (tChain (rI0 fun i j => .bl (decide (i ≤ j))) (rI0 fun i j => .bl (decide (i ≤ j))) (tC (.int 1)) (tFld K (tVar 0) "number") (tVar 2)))) (tTest (tOp (rIn K false) (tFld K (tVar 0) "number") (tVar 1)))) (tRet (tC (.bl false))) tNext)
  (tRet (tOp (rI0 fun i j => .bl (decide (i < j))) (tCall (sp_lighter K c) [] E0 (tCons (tVar 1) (tCons (tFld K (tVar 0) "number") tNil))) (tFld K (tVar 0) "number")))), (pss_cons (ps_if (PW.pt (pw_or (pt_not (pt_chain op_le op_le pe_int (pe_fld (pv 0) rfl) (pv 2))) (pw_or1 (pt_cmpR op_in_seq (pe_fld (pv 0) rfl) (pv 1) (by rfl))))) (pss_one (ps_ret pe_bl)) pss_nil)
  (pss_one (ps_ret (pe_cmpR op_lt (pe_call G_lighter.ok (hr.mono (by decide)) (by rfl) G_lighter.g G_lighter.kp G_lighter.b .nil pass0 (pa_cons (pv 1) (pa_cons (pe_fld (pv 0) rfl) pa_nil))) (pe_fld (pv 0) rfl) (nomark _))))), ?_⟩
    refine w_start (σ := [some _, some _, some _]) rfl ?_
    wtm_at "w"
    refine v_ch (d := decide (g ≤ m)) (fun _ q hq => ?_) ?_
    · wtm_at "w"
      exact hq
    wtm_at "w"
    refine v_or (d := decide (g ∈ ns)) (fun _ q hq => ?_) (fun H2 s2 => ?_)
    · wtm_at "w"
      exact hq _ (Same.refl _)
    refine v_if (fun hc => ?_) (fun hc => ?_)
    · wtm_at "w"
      have e : gapB ns m g = false := by
        refine if_pos ?_
        by_cases h1 : g ∈ ns
        · exact .inr h1
        · refine .inl fun z => ?_
          simp [h1, z.1, z.2] at hc
      rw [← e]
      exact k _ s2
    · wtm_at "w"
      refine c_lighter (by wtm_at "sq") hz fun H3 s3 => ?_
      wtm_at "w"
      have e : gapB ns m g = decide (slt g ns < g) := by
        refine if_neg ?_
        rintro (z | z)
        · refine z ?_
          simp at hc
          exact ⟨hc.1.1, hc.1.2⟩
        · simp [z] at hc
      rw [← e]
      exact k _ (s2.trans s3)
/-! ### telling -/
def sp_asked_most (_ : PySem.W.Frag) (_ : Ca) : Sp := fun vs H Q _ => ∃ m, vs = [.int m] ∧ 0 ≤ m ∧ Ret .non H Q
theorem c_asked_most {m : Int} {H : Hp} {Q : VK} {E : XK} (h : 0 ≤ m) (k : ∀ H2, Same H H2 → Q .non H2) : sp_asked_most K c [.int m] H Q E := ⟨m, rfl, h, k⟩
theorem ok_asked_most {f f0 : Addr} {fd fd0 : FuncData} (A : At K mg "asked_most" sAskedMost ["most"] f fd) (T : Tx K mg c) (G_is_number : FnAt P w K mg base CX0 1 "is_number" ["thing", "least"] (sp_is_number K c) f0 fd0) : FnAt P w K mg base CX0 2 "asked_most" ["most"] (sp_asked_most K c) f fd := by
  refine ⟨A.g, A.F.kp, A.b, A.F.ok sc_sAskedMost (fun vs H Q E h => ?_) (fun cdv Ar outer s H vs Q E hr h => ?_)⟩
  · obtain ⟨m, rfl, _⟩ := h
    rfl
  · obtain ⟨m, rfl, hm, k⟩ := h
    refine ⟨(tIfS (tNot (tB (tCall (sp_is_number K c) [] E0 (tCons (tVar 0) (tCons (tC (.int 0)) tNil))))) tNever tNext), (pss_one (ps_if (pt_not (pt_val (pe_call G_is_number.ok (hr.mono (by decide)) (by rfl) G_is_number.g G_is_number.kp G_is_number.b .nil pass0 (pa_cons (pv 0) (pa_cons pe_int pa_nil))))) (pss_one ps_never) pss_nil)), ?_⟩
    refine w_start (σ := [some _]) rfl ?_
    wtm_at "w"
    refine c_is_number trivial fun H2 s2 => ?_
    wtm_at "w"
    refine v_iff (show (!decide (0 ≤ m)) = false by rw [decide_eq_true hm]; rfl) ?_
    wtm_at "w"
    exact k _ s2
def sp_told (K : PySem.W.Frag) (c : Ca) : Sp := fun vs H Q _ => ∃ a ns m, vs = [.ref a, .int m] ∧ SqL K H a (ns.map V.int) ∧ Pos ns ∧ ns.length ≤ 16777215 ∧ 0 ≤ m ∧
  (m < fm ns → ∀ p dx H2, H p = none → Same H H2 → H2 p = some (.ins c.All dx []) → Q (.ref p) H2) ∧ (¬ m < fm ns → ∀ p dx H2, H p = none → Same H H2 → H2 p = some (.ins c.Gap dx [("number", .int (fm ns))]) → Q (.ref p) H2)
theorem c_told {a : Addr} {ns : List Int} {m : Int} {H : Hp} {Q : VK} {E : XK} (h : SqL K H a (ns.map V.int)) (hp : Pos ns) (hz : ns.length ≤ 16777215) (hm : 0 ≤ m)
    (k1 : m < fm ns → ∀ p dx H2, H p = none → Same H H2 → H2 p = some (.ins c.All dx []) → Q (.ref p) H2) (k2 : ¬ m < fm ns → ∀ p dx H2, H p = none → Same H H2 → H2 p = some (.ins c.Gap dx [("number", .int (fm ns))]) → Q (.ref p) H2) :
    sp_told K c [.ref a, .int m] H Q E := ⟨a, ns, m, rfl, h, hp, hz, hm, k1, k2⟩
theorem ok_told {f f0 f1 f2 f3 : Addr} {fd fd0 fd1 fd2 fd3 : FuncData} (A : At K mg "told" sTold ["weights", "most"] f fd) (T : Tx K mg c) (G_asked_set : FnAt P w K mg base CX0 2 "asked_set" ["weights"] (sp_asked_set K c) f0 fd0) (G_first_missing : FnAt P w K mg base CX0 1 "first_missing" ["weights"] (sp_first_missing K c) f1 fd1) (G_Gap_init : InAt P w K mg base CX0 1 c.Gap "Gap" ["self", "number"] (sp_Gap_init K c) f2 fd2) (G_asked_most : FnAt P w K mg base CX0 2 "asked_most" ["most"] (sp_asked_most K c) f3 fd3) (Z_All : Mk0 K mg c.All "All") : FnAt P w K mg base CX0 3 "told" ["weights", "most"] (sp_told K c) f fd := by
  refine ⟨A.g, A.F.kp, A.b, A.F.ok sc_sTold (fun vs H Q E h => ?_) (fun cdv Ar outer s H vs Q E hr h => ?_)⟩
  · obtain ⟨a, ns, m, rfl, _⟩ := h
    rfl
  · obtain ⟨a, ns, m, rfl, hS, hp, hz, hm, k1, k2⟩ := h
    refine ⟨(tSeq (tDrop (tCall (sp_asked_set K c) [] E0 (tCons (tVar 0) tNil)))
  (tSeq (tDrop (tCall (sp_asked_most K c) [] E0 (tCons (tVar 1) tNil)))
  (tSeq (tAsg (tCall (sp_first_missing K c) [] E0 (tCons (tVar 0) tNil)) (gName 2))
  (tRet (tIf (tTest (tOp (rI0 fun i j => .bl (decide (j < i))) (tVar 2) (tVar 1))) (tMake00 c.All) (tMake c.Gap (sp_Gap_init K c) [] E0 (tCons (tVar 2) tNil))))))), (pss_cons (ps_expr (pe_call G_asked_set.ok (hr.mono (by decide)) (by rfl) G_asked_set.g G_asked_set.kp G_asked_set.b .nil pass0 (pa_cons (pv 0) pa_nil)))
  (pss_cons (ps_expr (pe_call G_asked_most.ok (hr.mono (by decide)) (by rfl) G_asked_most.g G_asked_most.kp G_asked_most.b .nil pass0 (pa_cons (pv 1) pa_nil)))
  (pss_cons (ps_set (i := 2) sc_sTold.nd rfl (Or.inl rfl) (pe_call G_first_missing.ok (hr.mono (by decide)) (by rfl) G_first_missing.g G_first_missing.kp G_first_missing.b .nil pass0 (pa_cons (pv 0) pa_nil)))
  (pss_one (ps_ret (pe_ifExp (pt_cmpR op_gt (pv 2) (pv 1) (nomark _)) (pe_make00 Z_All (by rfl)) (pe_make G_Gap_init.m G_Gap_init.ok (hr.mono (by decide)) (by rfl) G_Gap_init.g G_Gap_init.b .nil pass0 (pa_cons (pv 2) pa_nil)))))))), ?_⟩
    refine w_start (σ := [some _, some _, none]) rfl ?_
    wtm_at "w"
    refine c_asked_set hS hp hz fun H2 s2 => ?_
    wtm_at "w"
    refine c_asked_most hm fun H3 s3 => ?_
    wtm_at "w"
    refine c_first_missing (by wtm_at "sq") fun H4 s4 => ?_
    wtm_at "w"
    refine v_if (fun hc => ?_) (fun hc => ?_)
    · refine w_make00 fun p dx H5 h5 s5 o5 => ?_
      exact k1 (of_decide_eq_true hc) p dx H5 (s2.free (s3.free (s4.free h5))) (((s2.trans s3).trans s4).trans s5) o5
    · wtm_at "w"
      refine v_make fun p dx H5 h5 s5 o5 _ => ?_
      refine c_Gap_init o5 ⟨rfl, ?_⟩
      have h5' : H p = none := s2.free (s3.free (s4.free h5))
      exact k2 (of_decide_eq_false hc) p dx _ h5' (same_mut (((s2.trans s3).trans s4).trans s5) h5') upd_same
/-! ### Best -/
abbrev bestF (l k : Addr) : List (Str × V) := [("added", .ref l), ("misses", .ref k)]
theorem am_ : ¬ (("misses" : Str) = "added") := by decide +kernel
theorem ma_ : ¬ (("added" : Str) = "misses") := by decide +kernel
theorem bestF_added (l k : Addr) : (bestF l k).lookup ("added" : Str) = some (.ref l) := lk2a
theorem bestF_misses (l k : Addr) : (bestF l k).lookup ("misses" : Str) = some (.ref k) := lk2b am_
theorem bestF_shows (l k : Addr) : (bestF l k).lookup ("shows" : Str) = none := lk2n (by decide +kernel) (by decide +kernel)
def sp_Best_init (K : PySem.W.Frag) (c : Ca) : Sp := fun vs H Q _ => ∃ (p dx a b : Addr) (xs ys : List Int), vs = [.ref p, .ref a, .ref b] ∧ H p = some (.ins c.Best dx []) ∧ SqL K H a (xs.map V.int) ∧ SqL K H b (ys.map V.int) ∧
  ∀ H' l k, (∀ x o, x ≠ p → H x = some o → H' x = some o) → H' p = some (.ins c.Best dx (bestF l k)) → H' l = some (.lst (xs.map V.int)) → H' k = some (.lst (ys.map V.int)) → H l = none → H k = none → l ≠ k → Q .non H'
theorem c_Best_init {p dx a b : Addr} {xs ys : List Int} {H : Hp} {Q : VK} {E : XK} (h : H p = some (.ins c.Best dx [])) (ha : SqL K H a (xs.map V.int)) (hb : SqL K H b (ys.map V.int))
    (k : ∀ H' l k, (∀ x o, x ≠ p → H x = some o → H' x = some o) → H' p = some (.ins c.Best dx (bestF l k)) → H' l = some (.lst (xs.map V.int)) → H' k = some (.lst (ys.map V.int)) → H l = none → H k = none → l ≠ k → Q .non H') :
    sp_Best_init K c [.ref p, .ref a, .ref b] H Q E := ⟨p, dx, a, b, xs, ys, rfl, h, ha, hb, k⟩
theorem ok_Best_init {f : Addr} {fd : FuncData} (A : AtI K mg c.Best "Best" "Best.__init__" sBestInit ["self", "added", "misses"] f fd) (T : Tx K mg c) : InAt P w K mg base CX0 1 c.Best "Best" ["self", "added", "misses"] (sp_Best_init K c) f fd := by
  refine ⟨A.g, A.m, A.b, A.F.ok sc_sBestInit (fun vs H Q E h => ?_) (fun cdv Ar outer s H vs Q E hr h => ?_)⟩
  · obtain ⟨p, dx, a, b, xs, ys, rfl, _⟩ := h
    rfl
  · obtain ⟨p, dx, a, b, xs, ys, rfl, hp, ha, hb, k⟩ := h
    refine ⟨(tSeq (sFld K (tVar 0) (tCB (rListOf K) (tCons (tVar 1) tNil)) "added")
  (sFld K (tVar 0) (tCB (rListOf K) (tCons (tVar 2) tNil)) "misses")), (pss_cons (ps_fld (pv 0) (pe_callTy call_listK (by rfl) T.z_list bt_list (pa_cons (pv 1) pa_nil)) rfl)
  (pss_one (ps_fld (pv 0) (pe_callTy call_listK (by rfl) T.z_list bt_list (pa_cons (pv 2) pa_nil)) rfl))), ?_⟩
    refine w_start (σ := [some _, some _, some _]) rfl ?_
    wtm_at "w"
    refine v_list ha fun l H1 n1 s1 d1 => ?_
    wtm_at "w"
    have hp1 := s1 _ _ hp
    have npl : p ≠ l := ne_of_none hp n1
    refine ⟨p, _, dx, [], rfl, hp1, T.c_Best, T.n_Best_added, by decide, ?_⟩
    have nb : ∀ {x : Addr} {o : HO}, x ≠ p → H x = some o → upd H1 p (.ins c.Best dx (putF "added" (V.ref l) [])) x = some o := fun hx e => by rw [upd_ne hx]; exact s1 _ _ e
    have hbq : SqL K (upd H1 p (.ins c.Best dx (putF "added" (V.ref l) []))) b (ys.map V.int) := by
      rcases hb with (hb | ⟨o, hb⟩) | hb
      · exact .inl (.inl (nb (ne_of hb hp (by intro z; cases z)) hb))
      · exact .inl (.inr ⟨o, nb (ne_of hb hp (by intro z; cases z)) hb⟩)
      · exact .inr hb
    wtm_at "w"
    refine v_list hbq fun k2 H2 n2 s2 d2 => ?_
    wtm_at "w"
    have npk : k2 ≠ p := fun e => by rw [e, upd_same] at n2; cases n2
    have n2' : H1 k2 = none := by rw [upd_ne npk] at n2; exact n2
    have nlk : l ≠ k2 := ne_of_none d1 n2'
    refine ⟨p, _, dx, _, rfl, s2 _ _ upd_same, T.c_Best, T.n_Best_misses, by show 1 < 1000; decide, ?_⟩
    refine k _ l k2 (fun x o hx e => by rw [upd_ne hx]; exact s2 _ _ (nb hx e)) ?_ ?_ ?_ n1 (s1.free n2') nlk
    · rw [upd_same, putF_two ma_]
    · rw [upd_ne npl.symm]
      exact s2 _ _ (by rw [upd_ne npl.symm]; exact d1)
    · rw [upd_ne npk]
      exact d2
def sp_Best_shows (K : PySem.W.Frag) (c : Ca) : Sp := fun vs H Q _ => ∃ (o dx l k a : Addr) (xs ys ws : List Int) (m : Int), vs = [.ref o, .ref a, .int m] ∧ H o = some (.ins c.Best dx (bestF l k)) ∧ H l = some (.lst (xs.map V.int)) ∧ SqL K H k (ys.map V.int) ∧
  H a = some (.lst (ws.map V.int)) ∧ ws.length + xs.length ≤ 16777215 ∧ Ret (.bl (shB ws m xs ys)) H Q
theorem c_Best_shows {o dx l k a : Addr} {xs ys ws : List Int} {m : Int} {H : Hp} {Q : VK} {E : XK} (ho : H o = some (.ins c.Best dx (bestF l k))) (hl : H l = some (.lst (xs.map V.int))) (hk : SqL K H k (ys.map V.int))
    (ha : H a = some (.lst (ws.map V.int))) (hz : ws.length + xs.length ≤ 16777215) (q : ∀ H2, Same H H2 → Q (.bl (shB ws m xs ys)) H2) : sp_Best_shows K c [.ref o, .ref a, .int m] H Q E := ⟨o, dx, l, k, a, xs, ys, ws, m, rfl, ho, hl, hk, ha, hz, q⟩
theorem eat_step {m : Int} {ord : List Int} {i : Nat} {W : Int} (h : i < ord.length) (c : ord.getD i 0 < m) : eat m (ord.drop i) W = eat m (ord.drop (i + 1)) (W + ord.getD i 0) := by
  have e : ord.getD i 0 = ord[i] := by rw [List.getD_eq_getElem?_getD, List.getElem?_eq_getElem h]; rfl
  rw [e] at c ⊢
  rw [List.drop_eq_getElem_cons h]
  exact if_pos c
theorem eat_halt {m : Int} {ord : List Int} {i : Nat} {W : Int} (h : ¬ (i < ord.length ∧ ord.getD i 0 < m)) : eat m (ord.drop i) W = (ord.drop i, W) := by
  refine eat_stop fun o ho => ?_
  by_cases c : i < ord.length
  · have e : ord.getD i 0 = ord[i] := by rw [List.getD_eq_getElem?_getD, List.getElem?_eq_getElem c]; rfl
    rw [List.drop_eq_getElem_cons c] at ho
    have ho' : ord[i] = o := Option.some.inj ho
    rw [← ho', ← e]
    exact fun z => h ⟨c, z⟩
  · rw [List.drop_of_length_le (by omega)] at ho
    cases ho
theorem ok_Best_shows {f f0 : Addr} {fd fd0 : FuncData} (A : AtM K c.Best "shows" "Best.shows" sBestShows ["self", "weights", "most"] f fd) (T : Tx K mg c) (G_first_missing : FnAt P w K mg base CX0 1 "first_missing" ["weights"] (sp_first_missing K c) f0 fd0) : MtAt P w K mg base CX0 2 c.Best "shows" ["self", "weights", "most"] (sp_Best_shows K c) f fd := by
  refine ⟨A.me, A.b, A.F.ok sc_sBestShows (fun vs H Q E h => ?_) (fun cdv Ar outer s H vs Q E hr h => ?_)⟩
  · obtain ⟨o, dx, l, k, a, xs, ys, ws, m, rfl, _⟩ := h
    rfl
  · obtain ⟨o, dx, l, k, a, xs, ys, ws, m, rfl, ho, hl, hk, ha, hz, q⟩ := h
    have hcB := T.c_Best
    have hnA := T.n_Best_added
    have hnM := T.n_Best_misses
    have hf1 := bestF_added l k
    have hf2 := bestF_misses l k
    refine ⟨(tSeq (tIfS (tOr (tTest (tOp rNe (tCB (rLen K) (tCons (tFld K (tVar 0) "added") tNil)) (tCB (rLen K) (tCons (tFld K (tVar 0) "misses") tNil)))) (tNot (tB (tCB (rAll K) (tCons (tLc (iList K (tFld K (tVar 0) "added")) (gName 7) tYes (tOp (rI0 fun i j => .bl (decide (j < i))) (tVar 7) (tC (.int 0))) [7]) tNil))))) (tRet (tC (.bl false))) tNext)
  (tSeq (tIfS (tTest (tOp (rI0 fun i j => .bl (decide (i ≤ j))) (tCall (sp_first_missing K c) [] E0 (tCons (tOp rCat (tVar 1) (tFld K (tVar 0) "added")) tNil)) (tVar 2))) (tRet (tC (.bl false))) tNext)
  (tSeq (tAsg (tCB (rSortedI K) (tCons (tVar 1) tNil)) (gName 3))
  (tSeq (tAsg (tC (.int 0)) (gName 4))
  (tSeq (tAsg (tC (.int 0)) (gName 5))
  (tSeq (tFor (iList K (tFld K (tVar 0) "misses")) (gName 6) (tSeq (tWhile (tAnd (tTest (tOp (rI0 fun i j => .bl (decide (i < j))) (tVar 5) (tCB (rLen K) (tCons (tVar 3) tNil)))) (tTest (tOp (rI0 fun i j => .bl (decide (i < j))) (tOp (rIxL K) (tVar 3) (tVar 5)) (tVar 6)))) (tSeq (tAsg (tOp (rI0 fun i j => .int (i + j)) (tVar 4) (tOp (rIxL K) (tVar 3) (tVar 5))) (gName 4))
  (tAsg (tOp (rI0 fun i j => .int (i + j)) (tVar 5) (tC (.int 1))) (gName 5))))
  (tSeq (tIfS (tOr (tNot (tTest (tChain (rI0 fun i j => .bl (decide (i ≤ j))) (rI0 fun i j => .bl (decide (i ≤ j))) (tC (.int 1)) (tVar 6) (tVar 2)))) (tOr (tTest (tOp (rEqD K) (tSl (rSlL K) (tVar 3) (tPart (tVar 5)) (tPart (tOp (rI0 fun i j => .int (i + j)) (tVar 5) (tC (.int 1))))) (tLst (tCons (tVar 6) tNil)))) (tTest (tOp rNe (tVar 4) (tOp (rI0 fun i j => .int (i - j)) (tVar 6) (tC (.int 1))))))) (tRet (tC (.bl false))) tNext)
  (tAsg (tOp (rI0 fun i j => .int (i + j)) (tVar 4) (tVar 6)) (gName 4)))))
  (tRet (tC (.bl true))))))))), (pss_cons (ps_if (PW.pt (pw_or (pt_cmpR op_ne (pe_callB call_lenK (by rfl) T.z_len bt_len (pa_cons (pe_fld (pv 0) rfl) pa_nil)) (pe_callB call_lenK (by rfl) T.z_len bt_len (pa_cons (pe_fld (pv 0) rfl) pa_nil)) (nomark _)) (pw_or1 (pt_not (pt_val (pe_callB (cr_all rfl) (by rfl) T.z_all bt_all (pa_cons (pe_lc (own := [("weight", 7)]) (g := gName 7) (tt := tYes) (te := (tOp (rI0 fun i j => .bl (decide (j < i))) (tVar 7) (tC (.int 0)))) rfl sc_sBestShows.nd (pi_list (pe_fld (pv 0) rfl)) (blkOk_by (N := ["self", "weights", "most", "order", "whole", "at", "miss", "weight"]) (sc := defScope sBestShows) (by decide +kernel)) (fun _ _ _ _ _ => (pg_name (i := 7) sc_sBestShows.nd rfl (Or.inl rfl))) (fun _ _ _ _ _ => pts_nil) (fun _ _ _ _ _ => (pe_cmpR op_gt (pv 7) pe_int (nomark _)))) pa_nil))))))) (pss_one (ps_ret pe_bl)) pss_nil)
  (pss_cons (ps_if (pt_cmpR op_le (pe_call G_first_missing.ok (hr.mono (by decide)) (by rfl) G_first_missing.g G_first_missing.kp G_first_missing.b .nil pass0 (pa_cons (pe_op op_cat (pv 1) (pe_fld (pv 0) rfl)) pa_nil)) (pv 2) (nomark _)) (pss_one (ps_ret pe_bl)) pss_nil)
  (pss_cons (ps_set (i := 3) sc_sBestShows.nd rfl (Or.inl rfl) (pe_callB cr_sortedI (by rfl) T.z_sorted bt_sorted (pa_cons (pv 1) pa_nil)))
  (pss_cons (ps_set (i := 4) sc_sBestShows.nd rfl (Or.inl rfl) pe_int)
  (pss_cons (ps_set (i := 5) sc_sBestShows.nd rfl (Or.inl rfl) pe_int)
  (pss_cons (ps_for PassesOwn.never rfl (pi_list (pe_fld (pv 0) rfl)) (pg_name (i := 6) sc_sBestShows.nd rfl (Or.inl rfl)) (pss_cons (ps_while PassesOwn.never (PW.pt (pw_and (pt_cmpR op_lt (pv 5) (pe_callB call_lenK (by rfl) T.z_len bt_len (pa_cons (pv 3) pa_nil)) (nomark _)) (pw_and1 (pt_cmpR op_lt (pe_ix ix_list (pv 3) (pv 5) (fun _ _ => rfl)) (pv 6) (nomark _))))) (pss_cons (ps_set (i := 4) sc_sBestShows.nd rfl (Or.inl rfl) (pe_op op_add (pv 4) (pe_ix ix_list (pv 3) (pv 5) (fun _ _ => rfl))))
      (pss_one (ps_set (i := 5) sc_sBestShows.nd rfl (Or.inl rfl) (pe_op op_add (pv 5) pe_int)))))
    (pss_cons (ps_if (PW.pt (pw_or (pt_not (pt_chain op_le op_le pe_int (pv 6) (pv 2))) (pw_or (pt_cmpR (op_eqD hr.units) (pe_slice sl_list (pv 3) (po_some (pv 5)) (po_some (pe_op op_add (pv 5) pe_int))) (pe_lst (pa_cons (pv 6) pa_nil)) (nomark _)) (pw_or1 (pt_cmpR op_ne (pv 4) (pe_op op_sub (pv 6) pe_int) (nomark _)))))) (pss_one (ps_ret pe_bl)) pss_nil)
    (pss_one (ps_set (i := 4) sc_sBestShows.nd rfl (Or.inl rfl) (pe_op op_add (pv 4) (pv 6)))))))
  (pss_one (ps_ret pe_bl)))))))), ?_⟩
    refine w_start (σ := [some _, some _, some _, none, none, none, none, none]) rfl ?_
    wtm_at "w"
    refine v_or (d := !xs.all fun n => decide (0 < n)) (fun _ r hr2 => ?_) (fun H2 s2 => ?_)
    · wtm_at "w"
      refine v_lcI (σ2 := fun n => [some (.ref o), some (.ref a), some (.int m), none, none, none, none, some (.int n)]) (fun _ => true) (fun n => .bl (decide (0 < n))) (by wtm_at "sq") (by omega) (fun _ => rfl) (fun _ _ => rfl) (fun n H' _ _ R h => t_yes h) (fun n H' hn _ s1 R h => ?_) (fun D H2 hD s2 d2 => ?_)
      · wtm_at "w"
        exact h _ (Same.refl _)
      · rw [filter_yes, map_bl] at d2
        wtm_at "w"
        refine v_all (sq_h d2) ?_
        wtm_at "w"
        rw [all_map]
        exact hr2 _ s2
    refine v_if (fun hc => ?_) (fun hc => ?_)
    · wtm_at "w"
      have e : shB ws m xs ys = false := by
        refine if_pos ?_
        rw [Bool.or_eq_true] at hc
        rcases hc with hc | hc
        · refine .inl fun z => ?_
          rw [z] at hc
          simp at hc
        · exact .inr (by simpa using hc)
      rw [← e]
      exact q _ s2
    · have hc2 : ¬ (xs.length ≠ ys.length ∨ (xs.all fun n => decide (0 < n)) = false) := by
        rw [Bool.or_eq_false_iff] at hc
        rintro (z | z)
        · have := hc.1
          simp at this
          exact z (by omega)
        · have := hc.2
          rw [z] at this
          cases this
      have e1 : shB ws m xs ys = if fm (ws ++ xs) ≤ m then false else shL m (srt ws) 0 ys := if_neg hc2
      wtm_at "w"
      refine v_cat (ns := ws) (ms := xs) (by wtm_at "hp") (by wtm_at "hp") hz fun p3 H3 n3 s3 d3 => ?_
      wtm_at "w"
      refine c_first_missing (sq_h d3) fun H4 s4 => ?_
      wtm_at "w"
      have sA := (s2.trans s3).trans s4
      refine v_if (fun hf => ?_) (fun hf => ?_)
      · wtm_at "w"
        rw [if_pos (of_decide_eq_true hf)] at e1
        rw [← e1]
        exact q _ sA
      · rw [if_neg (of_decide_eq_false hf)] at e1
        wtm_at "w"
        refine v_sorted (sq_h (sA _ _ ha)) fun od H5 n5 s5 d5 => ?_
        wtm_at "w"
        have sB := sA.trans s5
        have hk5 := sB.seq hk
        have ho5 := sB _ _ ho
        refine v_forI hk5 (fun r σ' H' => ∃ (i : Nat) (W : Int) (y6 : Option V), σ' = [some (.ref o), some (.ref a), some (.int m), some (.ref od), some (.int W), some (.int (i : Int)), y6, none] ∧ i ≤ (srt ws).length ∧ shL m ((srt ws).drop i) W r = shB ws m xs ys ∧ Same H5 H')
          ⟨0, 0, none, rfl, Nat.zero_le _, by rw [List.drop_zero, e1], Same.refl _⟩ (fun r σ' H' h => by obtain ⟨_, _, _, _, _, _, s⟩ := h; exact s.seq hk5) ?_ ?_
        · rintro pre ms r σ' H6 _ ⟨i, W, y6, rfl, hi, hsh, s6⟩
          have d6 : H6 od = some (.lst ((srt ws).map V.int)) := s6 _ _ d5
          have hsh2 : (if ¬ (1 ≤ ms ∧ ms ≤ m) ∨ (eat ms ((srt ws).drop i) W).1.head? = some ms ∨ (eat ms ((srt ws).drop i) W).2 ≠ ms - 1 then false else shL m (eat ms ((srt ws).drop i) W).1 ((eat ms ((srt ws).drop i) W).2 + ms) r) = shB ws m xs ys := hsh
          wtm_at "w"
          refine w_while (fun j σ' H2 => ∃ (i2 : Nat) (W2 : Int), σ' = [some (.ref o), some (.ref a), some (.int m), some (.ref od), some (.int W2), some (.int (i2 : Int)), some (.int ms), none] ∧ i2 ≤ (srt ws).length ∧ j = (srt ws).length - i2 ∧ eat ms ((srt ws).drop i2) W2 = eat ms ((srt ws).drop i) W ∧ Same H6 H2) _ ⟨i, W, rfl, hi, rfl, rfl, Same.refl _⟩ ?_
          rintro j σ' H7 ⟨i2, W2, rfl, hi2, rfl, he2, s7⟩
          have d7 := s7 _ _ d6
          wtm_at "w"
          refine v_and (d := decide ((srt ws).getD i2 0 < ms)) (fun hlt R hR => ?_) (fun H8 s8 => ?_)
          · have hlt' := of_decide_eq_true hlt
            wtm_at "w"
            refine v_ixL (sq_h d7) (at_get (by omega) (by omega)) ?_
            wtm_at "w"
            rw [Int.toNat_natCast]
            exact hR _ (Same.refl _)
          · have d8 := s8 _ _ d7
            refine v_if (fun hcc => ?_) (fun hcc => ?_)
            · rw [Bool.and_eq_true] at hcc
              have h1 : i2 < (srt ws).length := by have := of_decide_eq_true hcc.1; omega
              have h2 := of_decide_eq_true hcc.2
              refine v_turn ?_
              wtm_at "w"
              refine v_ixL (sq_h d8) (at_get (by omega) (by omega)) ?_
              wtm_at "w"
              rw [Int.toNat_natCast]
              exact ⟨(srt ws).length - (i2 + 1), by omega, i2 + 1, W2 + (srt ws).getD i2 0, rfl, by omega, rfl, by rw [← he2, eat_step h1 h2], s7.trans s8⟩
            · have hst : ¬ (i2 < (srt ws).length ∧ (srt ws).getD i2 0 < ms) := by
                rintro ⟨z1, z2⟩
                rw [decide_eq_true z2, decide_eq_true (show (i2 : Int) < ((srt ws).length : Int) by omega)] at hcc
                cases hcc
              rw [eat_halt hst] at he2
              rw [← he2] at hsh2
              have hsh3 : (if ¬ (1 ≤ ms ∧ ms ≤ m) ∨ ((srt ws).drop i2).head? = some ms ∨ W2 ≠ ms - 1 then false else shL m ((srt ws).drop i2) (W2 + ms) r) = shB ws m xs ys := hsh2
              wtm_at "w"
              refine v_ch (d := decide (ms ≤ m)) (fun _ R hR => ?_) ?_
              · wtm_at "w"
                exact hR
              wtm_at "w"
              refine v_or (d := (decide (((srt ws).drop i2).head? = some ms) || !decide (W2 = ms - 1))) (fun _ R hR => ?_) (fun H9 s9 => ?_)
              · wtm_at "w"
                refine v_sliceM (sq_h d8) (by omega) (by omega) fun q1 J1 n1 j1 h1 => ?_
                wtm_at "w"
                refine v_newL (n := 1) (by decide) fun q2 J2 n2 j2 h2 => ?_
                wtm_at "w"
                refine v_eqL (ms := [ms]) (sq_h (j2 _ _ h1)) (sq_h h2) ?_
                wtm_at "w"
                rw [show ((i2 : Int) + 1).toNat - ((i2 : Int)).toNat = 1 by omega, Int.toNat_natCast, drop_take_one]
                refine v_or (d := !decide (W2 = ms - 1)) (fun _ R2 hR2 => ?_) (fun H9 s9 => hR _ ((j1.trans j2).trans s9))
                wtm_at "w"
                exact hR2 _ (Same.refl _)
              · refine v_if (fun hq => ?_) (fun hq => ?_)
                · wtm_at "w"
                  rw [if_pos] at hsh3
                  · rw [hsh3]
                    exact q _ ((((sB.trans s6).trans s7).trans s8).trans s9)
                  · by_cases z1 : 1 ≤ ms ∧ ms ≤ m
                    · by_cases z2 : ((srt ws).drop i2).head? = some ms
                      · exact .inr (.inl z2)
                      · by_cases z3 : W2 = ms - 1
                        · rw [decide_eq_true z1.1, decide_eq_true z1.2, decide_eq_false z2, decide_eq_true z3] at hq
                          cases hq
                        · exact .inr (.inr z3)
                    · exact .inl z1
                · wtm_at "w"
                  rw [if_neg] at hsh3
                  · exact ⟨i2, W2 + ms, some (.int ms), rfl, hi2, hsh3, ((s6.trans s7).trans s8).trans s9⟩
                  · rintro (z | z | z)
                    · by_cases z1 : 1 ≤ ms
                      · have z2 : ¬ ms ≤ m := fun w => z ⟨z1, w⟩
                        rw [decide_eq_false z2] at hq
                        simp at hq
                      · rw [decide_eq_false z1] at hq
                        simp at hq
                    · rw [decide_eq_true z] at hq
                      simp at hq
                    · rw [decide_eq_false z] at hq
                      simp at hq
        · rintro σ' H' ⟨i, W, y6, rfl, hi, hsh, s6⟩
          wtm_at "w"
          have e2 : true = shB ws m xs ys := by
            rw [← hsh]
            unfold shL
            rfl
          rw [e2]
          exact q _ (sB.trans s6)
/-! ### fewest -/
def NN : Nat := 10000
theorem len_lt {n : Nat} {R m : Int} (h1 : (2 : Int) ^ n ≤ R + 1) (h2 : R < m) (h3 : m < 2 ^ NN) : n < NN := by
  by_cases c : n < NN
  · exact c
  · have : (2 : Nat) ^ NN ≤ 2 ^ n := Nat.pow_le_pow_right (by decide) (by omega)
    have : (2 : Int) ^ NN ≤ 2 ^ n := by exact_mod_cast this
    omega
def sp_fewest (K : PySem.W.Frag) (c : Ca) : Sp := fun vs H Q _ => ∃ (a : Addr) (ws : List Int) (m : Int), vs = [.ref a, .int m] ∧ SqL K H a (ws.map V.int) ∧ Pos ws ∧ ws.length ≤ 16777215 ∧ 0 ≤ m ∧ m < 2 ^ NN ∧
  ∀ p dx l k H2, H p = none → H l = none → H k = none → l ≠ k → Same H H2 → H2 p = some (.ins c.Best dx (bestF l k)) → H2 l = some (.lst ((few ws m).map V.int)) → H2 k = some (.lst ((few ws m).map V.int)) → (few ws m).length ≤ NN → Q (.ref p) H2
theorem c_fewest {a : Addr} {ws : List Int} {m : Int} {H : Hp} {Q : VK} {E : XK} (h : SqL K H a (ws.map V.int)) (hp : Pos ws) (hz : ws.length ≤ 16777215) (h0 : 0 ≤ m) (h1 : m < 2 ^ NN)
    (k : ∀ p dx l k H2, H p = none → H l = none → H k = none → l ≠ k → Same H H2 → H2 p = some (.ins c.Best dx (bestF l k)) → H2 l = some (.lst ((few ws m).map V.int)) → H2 k = some (.lst ((few ws m).map V.int)) → (few ws m).length ≤ NN → Q (.ref p) H2) :
    sp_fewest K c [.ref a, .int m] H Q E := ⟨a, ws, m, rfl, h, hp, hz, h0, h1, k⟩
theorem ok_fewest {f f0 f1 f2 : Addr} {fd fd0 fd1 fd2 : FuncData} (A : At K mg "fewest" sFewest ["weights", "most"] f fd) (T : Tx K mg c) (G_asked_set : FnAt P w K mg base CX0 2 "asked_set" ["weights"] (sp_asked_set K c) f0 fd0) (G_Best_init : InAt P w K mg base CX0 1 c.Best "Best" ["self", "added", "misses"] (sp_Best_init K c) f1 fd1) (G_asked_most : FnAt P w K mg base CX0 2 "asked_most" ["most"] (sp_asked_most K c) f2 fd2) : FnAt P w K mg base CX0 3 "fewest" ["weights", "most"] (sp_fewest K c) f fd := by
  refine ⟨A.g, A.F.kp, A.b, A.F.ok sc_sFewest (fun vs H Q E h => ?_) (fun cdv Ar outer s H vs Q E hr h => ?_)⟩
  · obtain ⟨a, ws, m, rfl, _⟩ := h
    rfl
  · obtain ⟨a, ws, m, rfl, hS, hp, hz, h0, h1, k⟩ := h
    refine ⟨(tSeq (tDrop (tCall (sp_asked_set K c) [] E0 (tCons (tVar 0) tNil)))
  (tSeq (tDrop (tCall (sp_asked_most K c) [] E0 (tCons (tVar 1) tNil)))
  (tSeq (tAsg (tCB (rSortedI K) (tCons (tVar 0) tNil)) (gName 2))
  (tSeq (tAsg (tLst tNil) (gName 3))
  (tSeq (tAsg (tC (.int 0)) (gName 4))
  (tSeq (tAsg (tC (.int 0)) (gName 5))
  (tSeq (tWhile (tTest (tOp (rI0 fun i j => .bl (decide (i < j))) (tVar 4) (tVar 1))) (tIfS (tAnd (tTest (tOp (rI0 fun i j => .bl (decide (i < j))) (tVar 5) (tCB (rLen K) (tCons (tVar 2) tNil)))) (tTest (tOp (rI0 fun i j => .bl (decide (i ≤ j))) (tOp (rIxL K) (tVar 2) (tVar 5)) (tOp (rI0 fun i j => .int (i + j)) (tVar 4) (tC (.int 1)))))) (tSeq (tAsg (tOp (rI0 fun i j => .int (i + j)) (tVar 4) (tOp (rIxL K) (tVar 2) (tVar 5))) (gName 4))
  (tAsg (tOp (rI0 fun i j => .int (i + j)) (tVar 5) (tC (.int 1))) (gName 5))) (tSeq (tDrop (tBM K "list" rAppend (tVar 3) (tCons (tOp (rI0 fun i j => .int (i + j)) (tVar 4) (tC (.int 1))) tNil)))
  (tAsg (tOp (rI0 fun i j => .int (i + j)) (tOp (rI CMulX fun i j => .int (i * j)) (tC (.int 2)) (tVar 4)) (tC (.int 1))) (gName 4)))))
  (tRet (tMake c.Best (sp_Best_init K c) [] E0 (tCons (tVar 3) (tCons (tVar 3) tNil))))))))))), (pss_cons (ps_expr (pe_call G_asked_set.ok (hr.mono (by decide)) (by rfl) G_asked_set.g G_asked_set.kp G_asked_set.b .nil pass0 (pa_cons (pv 0) pa_nil)))
  (pss_cons (ps_expr (pe_call G_asked_most.ok (hr.mono (by decide)) (by rfl) G_asked_most.g G_asked_most.kp G_asked_most.b .nil pass0 (pa_cons (pv 1) pa_nil)))
  (pss_cons (ps_set (i := 2) sc_sFewest.nd rfl (Or.inl rfl) (pe_callB cr_sortedI (by rfl) T.z_sorted bt_sorted (pa_cons (pv 0) pa_nil)))
  (pss_cons (ps_set (i := 3) sc_sFewest.nd rfl (Or.inl rfl) (pe_lst pa_nil))
  (pss_cons (ps_set (i := 4) sc_sFewest.nd rfl (Or.inl rfl) pe_int)
  (pss_cons (ps_set (i := 5) sc_sFewest.nd rfl (Or.inl rfl) pe_int)
  (pss_cons (ps_while PassesOwn.never (pt_cmpR op_lt (pv 4) (pv 1) (nomark _)) (pss_one (ps_if (PW.pt (pw_and (pt_cmpR op_lt (pv 5) (pe_callB call_lenK (by rfl) T.z_len bt_len (pa_cons (pv 2) pa_nil)) (nomark _)) (pw_and1 (pt_cmpR op_le (pe_ix ix_list (pv 2) (pv 5) (fun _ _ => rfl)) (pe_op op_add (pv 4) pe_int) (nomark _))))) (pss_cons (ps_set (i := 4) sc_sFewest.nd rfl (Or.inl rfl) (pe_op op_add (pv 4) (pe_ix ix_list (pv 2) (pv 5) (fun _ _ => rfl))))
      (pss_one (ps_set (i := 5) sc_sFewest.nd rfl (Or.inl rfl) (pe_op op_add (pv 5) pe_int)))) (pss_cons (ps_expr (pe_bm PySem.F.plainAttrs_list PySem.F.slot_list_append PySem.F.type_list_append mt_append (pv 3) (pa_cons (pe_op op_add (pv 4) pe_int) pa_nil)))
      (pss_one (ps_set (i := 4) sc_sFewest.nd rfl (Or.inl rfl) (pe_op op_add (pe_op op_mulX pe_int (pv 4)) pe_int)))))))
  (pss_one (ps_ret (pe_make G_Best_init.m G_Best_init.ok (hr.mono (by decide)) (by rfl) G_Best_init.g G_Best_init.b .nil pass0 (pa_cons (pv 3) (pa_cons (pv 3) pa_nil)))))))))))), ?_⟩
    refine w_start (σ := [some _, some _, none, none, none, none]) rfl ?_
    wtm_at "w"
    refine c_asked_set hS hp hz fun H2 s2 => ?_
    wtm_at "w"
    refine c_asked_most h0 fun H3 s3 => ?_
    wtm_at "w"
    refine v_sorted ((s2.trans s3).seq hS) fun od H4 n4 s4 d4 => ?_
    wtm_at "w"
    refine v_newL (n := 0) (by decide) fun l H5 n5 s5 d5 => ?_
    wtm_at "w"
    have d45 := s5 _ _ d4
    have hps : Pos (srt ws) := hp.perm (srt_perm ws)
    have sB := ((s2.trans s3).trans s4).trans s5
    have nl : H l = none := ((s2.trans s3).trans s4).free n5
    have nlo : od ≠ l := ne_of_none d4 n5
    refine w_while (fun j σ' H' => ∃ (i : Nat) (R : Int) (acc : List Int), σ' = [some (.ref a), some (.int m), some (.ref od), some (.ref l), some (.int R), some (.int (i : Int))] ∧ i ≤ (srt ws).length ∧ j = (m - R).toNat ∧ 0 ≤ R ∧
      acc ++ fw m (m - R).toNat ((srt ws).drop i) R = few ws m ∧ (2 : Int) ^ acc.length ≤ R + 1 ∧ acc.length ≤ NN ∧ Same H H' ∧ H' od = some (.lst ((srt ws).map V.int)) ∧ H' l = some (.lst (acc.map V.int))) _
      ⟨0, 0, [], rfl, Nat.zero_le _, rfl, Int.le_refl _, by rw [List.drop_zero, Int.sub_zero]; rfl, by decide, Nat.zero_le _, sB, d45, d5⟩ ?_
    rintro j σ' H' ⟨i, R, acc, rfl, hi, rfl, hR, hf, hpw, hacc, s6, d6, e6⟩
    wtm_at "w"
    refine v_if (fun hc => ?_) (fun hc => ?_)
    · have hlt := of_decide_eq_true hc
      obtain ⟨q, hq⟩ : ∃ q, (m - R).toNat = q + 1 := ⟨(m - R).toNat - 1, by omega⟩
      refine v_turn ?_
      wtm_at "w"
      refine v_and (d := decide ((srt ws).getD i 0 ≤ R + 1)) (fun hl R2 hR2 => ?_) (fun H7 s7 => ?_)
      · have hl' := of_decide_eq_true hl
        wtm_at "w"
        refine v_ixL (sq_h d6) (at_get (by omega) (by omega)) ?_
        wtm_at "w"
        rw [Int.toNat_natCast]
        exact hR2 _ (Same.refl _)
      · refine v_if (fun hcc => ?_) (fun hcc => ?_)
        · rw [Bool.and_eq_true] at hcc
          have hil : i < (srt ws).length := by have := of_decide_eq_true hcc.1; omega
          have hle := of_decide_eq_true hcc.2
          have eg : (srt ws).getD i 0 = (srt ws)[i] := by rw [List.getD_eq_getElem?_getD, List.getElem?_eq_getElem hil]; rfl
          have hpos := hps _ (List.getElem_mem hil)
          wtm_at "w"
          refine v_ixL (sq_h (s7 _ _ d6)) (at_get (by omega) (by omega)) ?_
          wtm_at "w"
          rw [Int.toNat_natCast]
          refine ⟨(m - (R + (srt ws).getD i 0)).toNat, by omega, i + 1, R + (srt ws).getD i 0, acc, rfl, by omega, rfl, by omega, ?_, by omega, hacc, s6.trans s7, s7 _ _ d6, s7 _ _ e6⟩
          rw [← hf, hq, List.drop_eq_getElem_cons hil, fw_take hlt (by omega), eg]
          congr 1
          have hp2 : Pos ((srt ws).drop (i + 1)) := hps.sub fun x hx => List.mem_of_mem_drop hx
          exact (fw_more (most := m) (m - (R + (srt ws)[i])).toNat hp2 (by omega) (by omega) (by omega)).symm
        · have hmiss : ∀ o, ((srt ws).drop i).head? = some o → ¬ o ≤ R + 1 := by
            intro o ho hle
            by_cases hil : i < (srt ws).length
            · have eg : (srt ws).getD i 0 = (srt ws)[i] := by rw [List.getD_eq_getElem?_getD, List.getElem?_eq_getElem hil]; rfl
              rw [List.drop_eq_getElem_cons hil] at ho
              have ho' : (srt ws)[i] = o := Option.some.inj ho
              rw [eg, ho', decide_eq_true hle, decide_eq_true (show (i : Int) < ((srt ws).length : Int) by omega)] at hcc
              cases hcc
            · rw [List.drop_of_length_le (by omega)] at ho
              cases ho
          have hlen := len_lt hpw hlt h1
          have hlen2 : acc.length ≤ 16777214 := by
            have : NN = 10000 := rfl
            omega
          wtm_at "w"
          refine v_ty (sq_h (s7 _ _ e6)) ?_
          wtm_at "w"
          refine v_app (s7 _ _ e6) (by rw [List.length_map]; omega) ?_
          wtm_at "w"
          refine v_I (mulx_ok (a := 2) (b := NN) (by decide) ?_ (by decide)) ?_
          · have h2 : ((2 ^ NN : Nat) : Int) = 2 ^ NN := by exact_mod_cast rfl
            have h3 : R < ((2 ^ NN : Nat) : Int) := by rw [h2]; omega
            omega
          wtm_at "w"
          refine ⟨(m - (2 * R + 1)).toNat, by omega, i, 2 * R + 1, acc ++ [R + 1], rfl, hi, rfl, by omega, ?_, ?_, ?_, same_mut (s6.trans s7) nl, ?_, ?_⟩
          · rw [← hf, hq, fw_miss hlt hmiss, List.append_assoc, List.singleton_append]
            congr 2
            have hp2 : Pos ((srt ws).drop i) := hps.sub fun x hx => List.mem_of_mem_drop hx
            exact (fw_more (most := m) (m - (2 * R + 1)).toNat hp2 (by omega) (by omega) (by omega)).symm
          · rw [List.length_append, List.length_singleton, Int.pow_succ]
            omega
          · rw [List.length_append, List.length_singleton]
            omega
          · rw [upd_ne nlo]
            exact s7 _ _ d6
          · rw [upd_same, List.map_append]
            rfl
    · have hge := of_decide_eq_false hc
      rw [fw_stop hge, List.append_nil] at hf
      rw [hf] at e6 hacc
      wtm_at "w"
      refine v_make fun p dx H7 n7 s7 o7 _ => ?_
      have e7 := s7 _ _ e6
      refine c_Best_init o7 (sq_h e7) (sq_h e7) fun H8 l2 k2 s8 o8 dl dk nl2 nk2 ne => ⟨rfl, ?_⟩
      have np : H p = none := s6.free n7
      exact k p dx l2 k2 H8 np (s6.free (s7.free nl2)) (s6.free (s7.free nk2)) ne (fun x o e => s8 x o (ne_of_none e np) (s7 _ _ (s6 _ _ e))) o8 dl dk hacc
/-! ### weighing, without -/
def sp_weighing (K : PySem.W.Frag) (_ : Ca) : Sp := fun vs H Q _ => ∃ (a : Addr) (ws : List Int) (n : Int), vs = [.ref a, .int n] ∧ SqL K H a (ws.map V.int) ∧ Pos ws ∧ ws.length ≤ 16777214 ∧ 0 ≤ n ∧ n < fm ws ∧ RetL (wg ws n) H Q
theorem c_weighing {a : Addr} {ws : List Int} {n : Int} {H : Hp} {Q : VK} {E : XK} (h : SqL K H a (ws.map V.int)) (hp : Pos ws) (hz : ws.length ≤ 16777214) (h0 : 0 ≤ n) (h1 : n < fm ws) (k : ∀ p H2, H p = none → Same H H2 → H2 p = some (.lst ((wg ws n).map V.int)) → Q (.ref p) H2) :
    sp_weighing K c [.ref a, .int n] H Q E := ⟨a, ws, n, rfl, h, hp, hz, h0, h1, k⟩
theorem ok_weighing {f f0 f1 f2 : Addr} {fd fd0 fd1 fd2 : FuncData} (A : At K mg "weighing" sWeighing ["weights", "number"] f fd) (T : Tx K mg c) (G_is_number : FnAt P w K mg base CX0 1 "is_number" ["thing", "least"] (sp_is_number K c) f0 fd0) (G_asked_set : FnAt P w K mg base CX0 2 "asked_set" ["weights"] (sp_asked_set K c) f1 fd1) (G_first_missing : FnAt P w K mg base CX0 1 "first_missing" ["weights"] (sp_first_missing K c) f2 fd2) : FnAt P w K mg base CX0 3 "weighing" ["weights", "number"] (sp_weighing K c) f fd := by
  refine ⟨A.g, A.F.kp, A.b, A.F.ok sc_sWeighing (fun vs H Q E h => ?_) (fun cdv Ar outer s H vs Q E hr h => ?_)⟩
  · obtain ⟨a, ws, n, rfl, _⟩ := h
    rfl
  · obtain ⟨a, ws, n, rfl, hS, hp, hz, h0, h1, k⟩ := h
    refine ⟨(tSeq (tDrop (tCall (sp_asked_set K c) [] E0 (tCons (tVar 0) tNil)))
  (tSeq (tIfS (tOr (tNot (tB (tCall (sp_is_number K c) [] E0 (tCons (tVar 1) (tCons (tC (.int 0)) tNil))))) (tTest (tOp (rI0 fun i j => .bl (decide (j ≤ i))) (tVar 1) (tCall (sp_first_missing K c) [] E0 (tCons (tVar 0) tNil))))) tNever tNext)
  (tSeq (tAsg (tLst tNil) (gName 2))
  (tSeq (tAsg (tVar 1) (gName 3))
  (tSeq (tFor (iList K (tRevL K (tCB (rSortedPO K) (tCons (tLc (iEnum K (tCons (tVar 0) tNil)) (gTup K 2 (gCons (gName 5) (gCons (gName 4) gNil))) tYes (tTup (tCons (tVar 4) (tCons (tVar 5) tNil))) [5, 4]) tNil)))) (gTup K 2 (gCons (gName 4) (gCons (gName 5) gNil))) (tIfS (tTest (tOp (rI0 fun i j => .bl (decide (i ≤ j))) (tVar 4) (tVar 3))) (tSeq (tDrop (tBM K "list" rAppend (tVar 2) (tCons (tVar 5) tNil)))
  (tAsg (tOp (rI0 fun i j => .int (i - j)) (tVar 3) (tVar 4)) (gName 3))) tNext))
  (tRet (tCB (rSortedI K) (tCons (tVar 2) tNil)))))))), (pss_cons (ps_expr (pe_call G_asked_set.ok (hr.mono (by decide)) (by rfl) G_asked_set.g G_asked_set.kp G_asked_set.b .nil pass0 (pa_cons (pv 0) pa_nil)))
  (pss_cons (ps_if (PW.pt (pw_or (pt_not (pt_val (pe_call G_is_number.ok (hr.mono (by decide)) (by rfl) G_is_number.g G_is_number.kp G_is_number.b .nil pass0 (pa_cons (pv 1) (pa_cons pe_int pa_nil))))) (pw_or1 (pt_cmpR op_ge (pv 1) (pe_call G_first_missing.ok (hr.mono (by decide)) (by rfl) G_first_missing.g G_first_missing.kp G_first_missing.b .nil pass0 (pa_cons (pv 0) pa_nil)) (nomark _))))) (pss_one ps_never) pss_nil)
  (pss_cons (ps_set (i := 2) sc_sWeighing.nd rfl (Or.inl rfl) (pe_lst pa_nil))
  (pss_cons (ps_set (i := 3) sc_sWeighing.nd rfl (Or.inl rfl) (pv 1))
  (pss_cons (ps_for PassesOwn.never rfl (pi_list (pe_revL (pe_callB cr_sortedPO (by rfl) T.z_sorted bt_sorted (pa_cons (pe_lc (own := [("place", 5), ("weight", 4)]) (g := gTup K 2 (gCons (gName 5) (gCons (gName 4) gNil))) (tt := tYes) (te := (tTup (tCons (tVar 4) (tCons (tVar 5) tNil)))) rfl sc_sWeighing.nd (pi_enum (by rfl) T.z_enumerate (pa_cons (pv 0) pa_nil)) (blkOk_by (N := ["weights", "number", "found", "left", "weight", "place"]) (sc := defScope sWeighing) (by decide +kernel)) (fun _ _ _ _ _ => (pg_tup rfl (pgs_cons (pg_name (i := 5) sc_sWeighing.nd rfl (Or.inl rfl)) (pgs_cons (pg_name (i := 4) sc_sWeighing.nd rfl (Or.inl rfl)) pgs_nil)))) (fun _ _ _ _ _ => pts_nil) (fun _ _ _ _ _ => (pe_tup (pa_cons (pv 4) (pa_cons (pv 5) pa_nil))))) pa_nil)))) (pg_tup rfl (pgs_cons (pg_name (i := 4) sc_sWeighing.nd rfl (Or.inl rfl)) (pgs_cons (pg_name (i := 5) sc_sWeighing.nd rfl (Or.inl rfl)) pgs_nil))) (pss_one (ps_if (pt_cmpR op_le (pv 4) (pv 3) (nomark _)) (pss_cons (ps_expr (pe_bm PySem.F.plainAttrs_list PySem.F.slot_list_append PySem.F.type_list_append mt_append (pv 2) (pa_cons (pv 5) pa_nil)))
      (pss_one (ps_set (i := 3) sc_sWeighing.nd rfl (Or.inl rfl) (pe_op op_sub (pv 3) (pv 4))))) pss_nil)))
  (pss_one (ps_ret (pe_callB cr_sortedI (by rfl) T.z_sorted bt_sorted (pa_cons (pv 2) pa_nil))))))))), ?_⟩
    refine w_start (σ := [some _, some _, none, none, none, none]) rfl ?_
    wtm_at "w"
    refine c_asked_set hS hp (by omega) fun H2 s2 => ?_
    wtm_at "w"
    refine c_is_number trivial fun H3 s3 => ?_
    wtm_at "w"
    refine v_iff (show (!decide (0 ≤ n)) = false by rw [decide_eq_true h0]; rfl) ?_
    wtm_at "w"
    refine c_first_missing (by wtm_at "sq") fun H4 s4 => ?_
    wtm_at "w"
    refine v_iff (decide_eq_false (by omega)) ?_
    have sA := (s2.trans s3).trans s4
    wtm_at "w"
    refine v_newL (n := 0) (by decide) fun l H5 n5 s5 d5 => ?_
    wtm_at "w"
    have sB := sA.trans s5
    have nl : H l = none := sA.free n5
    refine v_lcE (σ2 := fun i n2 => [some (.ref a), some (.int n), some (.ref l), some (.int n), some (.int n2), some (.int (i : Int))]) (fun i n2 y H => PairAt H y n2 (i : Int)) (sB.seq hS) (by omega) (fun _ _ => rfl) (fun _ _ => rfl) (fun _ _ _ _ _ s h => h.same s) (fun _ _ _ _ _ _ _ hD h => h.stay hD) (fun i n2 H' hn s R h => ?_) (fun D H6 ys hD s6 d6 hl hr => ?_)
    · wtm_at "w"
      exact v_newL (n := 2) (by decide) fun t H6 n6 s6 d6 => h _ _ s6 ⟨t, rfl, d6⟩
    wtm_at "w"
    refine v_sortedP (ps := prs ws) (sq_h d6) (by rw [prs_length, hl]) (fun i v q hv hq => ?_) fun p H7 zs hn7 s7 d7 hk7 hm7 => ?_
    · have hi : i < ws.length := by
        have := (List.getElem?_eq_some_iff.mp hq).1
        rwa [prs_length] at this
      have e := prs_get (List.getElem?_eq_getElem hi)
      rw [hq] at e
      have e2 := Option.some.inj e
      rw [e2]
      exact hr i _ v (List.getElem?_eq_getElem hi) hv
    wtm_at "w"
    refine ⟨p, zs, rfl, sq_h d7, v_new fun p8 H8 n8 s8 d8 => ?_⟩
    have hk8 : ∀ y ∈ zs.reverse, PairAt H8 y (kf H6 y).1 (kf H6 y).2 := fun y hy => (hk7 y (List.mem_reverse.mp hy)).same s8
    have hm8 : zs.reverse.map (kf H6) = (srtP (prs ws)).reverse := by rw [List.map_reverse, hm7]
    have hlz : zs.reverse.length = ws.length := by
      have := congrArg List.length hm8
      rw [List.length_map, List.length_reverse, List.length_reverse, (srtP_perm _).length_eq, prs_length] at this
      rw [List.length_reverse]
      exact this
    have sC := ((sB.trans s6).trans s7).trans s8
    have dl := s8 _ _ (s7 _ _ (s6 _ _ d5))
    refine v_forG (emb := fun v : V => v) (ns := zs.reverse) (by rw [List.map_id']; exact sq_h d8) (fun r σ' H' => ∃ (left : Int) (acc : List Int) (y4 y5 : Option V), σ' = [some (.ref a), some (.int n), some (.ref l), some (.int left), y4, y5] ∧
      acc ++ (gr left (r.map (kf H6))).map (·.2) = (gr n (srtP (prs ws)).reverse).map (·.2) ∧ acc.length + r.length ≤ ws.length ∧ Same H H' ∧ (∀ y ∈ zs.reverse, PairAt H' y (kf H6 y).1 (kf H6 y).2) ∧ SqL K H' p8 zs.reverse ∧ H' l = some (.lst (acc.map V.int)))
      ⟨n, [], none, none, rfl, by rw [hm8]; rfl, by rw [hlz]; simp, sC, hk8, sq_h d8, dl⟩ (fun r σ' H' h => by obtain ⟨_, _, _, _, _, _, _, _, _, s, _⟩ := h; rw [List.map_id']; exact s) ?_ ?_
    · rintro pre v r σ' H' hmem ⟨left, acc, y4, y5, rfl, hg, hac, s9, hk9, d9, e9⟩
      have hv : v ∈ zs.reverse := by rw [hmem]; exact List.mem_append.mpr (.inr List.mem_cons_self)
      obtain ⟨t, ht1, ht2⟩ := hk9 v hv
      subst ht1
      rw [List.map_cons] at hg
      generalize hq : kf H6 (.ref t) = q at hg ht2
      obtain ⟨w1, pl⟩ := q
      refine g_pair (st_h ht2) ?_
      wtm_at "w"
      have hg2 : acc ++ (if w1 ≤ left then (w1, pl) :: gr (left - w1) (r.map (kf H6)) else gr left (r.map (kf H6))).map (·.2) = (gr n (srtP (prs ws)).reverse).map (·.2) := hg
      refine v_if (fun hc => ?_) (fun hc => ?_)
      · have hle := of_decide_eq_true hc
        rw [if_pos hle] at hg2
        wtm_at "w"
        refine v_ty (sq_h e9) ?_
        wtm_at "w"
        refine v_app e9 (by rw [List.length_map]; omega) ?_
        wtm_at "w"
        refine ⟨left - w1, acc ++ [pl], some (.int w1), some (.int pl), rfl, ?_, ?_, same_mut s9 nl, fun y hy => (hk9 y hy).stay e9, ?_, ?_⟩
        · rw [← hg2, List.append_assoc]
          rfl
        · rw [List.length_append, List.length_singleton]
          rw [List.length_cons] at hac
          omega
        · have nlp : p8 ≠ l := by
            intro e
            rw [e] at n8
            rw [s7 _ _ (s6 _ _ d5)] at n8
            cases n8
          rcases d9 with (d9 | ⟨o, d9⟩) | d9
          · exact .inl (.inl (by rw [upd_ne nlp]; exact d9))
          · exact .inl (.inr ⟨o, by rw [upd_ne nlp]; exact d9⟩)
          · exact .inr d9
        · rw [upd_same, List.map_append]
          rfl
      · have hle := of_decide_eq_false hc
        rw [if_neg hle] at hg2
        wtm_at "w"
        exact ⟨left, acc, some (.int w1), some (.int pl), rfl, hg2, by rw [List.length_cons] at hac; omega, s9, hk9, d9, e9⟩
    · rintro σ' H' ⟨left, acc, y4, y5, rfl, hg, hac, s9, hk9, d9, e9⟩
      have hg2 : acc = (gr n (srtP (prs ws)).reverse).map (·.2) := by
        rw [← hg]
        show acc = acc ++ []
        rw [List.append_nil]
      wtm_at "w"
      refine v_sorted (sq_h e9) fun q H10 n10 s10 d10 => ?_
      rw [hg2] at d10
      exact k q H10 (s9.free n10) (s9.trans s10) d10
def sp_without (K : PySem.W.Frag) (_ : Ca) : Sp := fun vs H Q _ => ∃ (a : Addr) (ws : List Int) (n : Int), vs = [.ref a, .int n] ∧ SqL K H a (ws.map V.int) ∧ Pos ws ∧ ws.length ≤ 8000000 ∧ 0 ≤ n ∧ n < ws.length ∧ Ret (.int (fm (ws.take n.toNat ++ ws.drop (n.toNat + 1)))) H Q
theorem c_without {a : Addr} {ws : List Int} {n : Int} {H : Hp} {Q : VK} {E : XK} (h : SqL K H a (ws.map V.int)) (hp : Pos ws) (hz : ws.length ≤ 8000000) (h0 : 0 ≤ n) (h1 : n < ws.length) (k : ∀ H2, Same H H2 → Q (.int (fm (ws.take n.toNat ++ ws.drop (n.toNat + 1)))) H2) :
    sp_without K c [.ref a, .int n] H Q E := ⟨a, ws, n, rfl, h, hp, hz, h0, h1, k⟩
theorem ok_without {f f0 f1 f2 : Addr} {fd fd0 fd1 fd2 : FuncData} (A : At K mg "without" sWithout ["weights", "place"] f fd) (T : Tx K mg c) (G_is_number : FnAt P w K mg base CX0 1 "is_number" ["thing", "least"] (sp_is_number K c) f0 fd0) (G_asked_set : FnAt P w K mg base CX0 2 "asked_set" ["weights"] (sp_asked_set K c) f1 fd1) (G_first_missing : FnAt P w K mg base CX0 1 "first_missing" ["weights"] (sp_first_missing K c) f2 fd2) : FnAt P w K mg base CX0 3 "without" ["weights", "place"] (sp_without K c) f fd := by
  refine ⟨A.g, A.F.kp, A.b, A.F.ok sc_sWithout (fun vs H Q E h => ?_) (fun cdv Ar outer s H vs Q E hr h => ?_)⟩
  · obtain ⟨a, ws, n, rfl, _⟩ := h
    rfl
  · obtain ⟨a, ws, n, rfl, hS, hp, hz, h0, h1, k⟩ := h
    refine ⟨(tSeq (tDrop (tCall (sp_asked_set K c) [] E0 (tCons (tVar 0) tNil)))
  (tSeq (tIfS (tOr (tNot (tB (tCall (sp_is_number K c) [] E0 (tCons (tVar 1) (tCons (tC (.int 0)) tNil))))) (tTest (tOp (rI0 fun i j => .bl (decide (j ≤ i))) (tVar 1) (tCB (rLen K) (tCons (tVar 0) tNil))))) tNever tNext)
  (tRet (tCall (sp_first_missing K c) [] E0 (tCons (tOp rCat (tSl (rSlL K) (tVar 0) tNoPart (tPart (tVar 1))) (tSl (rSlL K) (tVar 0) (tPart (tOp (rI0 fun i j => .int (i + j)) (tVar 1) (tC (.int 1)))) tNoPart)) tNil))))), (pss_cons (ps_expr (pe_call G_asked_set.ok (hr.mono (by decide)) (by rfl) G_asked_set.g G_asked_set.kp G_asked_set.b .nil pass0 (pa_cons (pv 0) pa_nil)))
  (pss_cons (ps_if (PW.pt (pw_or (pt_not (pt_val (pe_call G_is_number.ok (hr.mono (by decide)) (by rfl) G_is_number.g G_is_number.kp G_is_number.b .nil pass0 (pa_cons (pv 1) (pa_cons pe_int pa_nil))))) (pw_or1 (pt_cmpR op_ge (pv 1) (pe_callB call_lenK (by rfl) T.z_len bt_len (pa_cons (pv 0) pa_nil)) (nomark _))))) (pss_one ps_never) pss_nil)
  (pss_one (ps_ret (pe_call G_first_missing.ok (hr.mono (by decide)) (by rfl) G_first_missing.g G_first_missing.kp G_first_missing.b .nil pass0 (pa_cons (pe_op op_cat (pe_slice sl_list (pv 0) po_none (po_some (pv 1))) (pe_slice sl_list (pv 0) (po_some (pe_op op_add (pv 1) pe_int)) po_none)) pa_nil)))))), ?_⟩
    refine w_start (σ := [some _, some _]) rfl ?_
    wtm_at "w"
    refine c_asked_set hS hp (by omega) fun H2 s2 => ?_
    wtm_at "w"
    refine c_is_number trivial fun H3 s3 => ?_
    wtm_at "w"
    refine v_iff (show (!decide (0 ≤ n)) = false by rw [decide_eq_true h0]; rfl) ?_
    wtm_at "w"
    have hS3 := (s2.trans s3).seq hS
    refine v_iff (decide_eq_false (by omega)) ?_
    wtm_at "w"
    refine v_sliceT hS3 h0 fun p4 H4 n4 s4 d4 => ?_
    wtm_at "w"
    refine v_sliceF (s4.seq hS3) (by omega) fun p5 H5 n5 s5 d5 => ?_
    wtm_at "w"
    refine v_cat (s5 _ _ d4) d5 (by rw [List.length_take, List.length_drop]; omega) fun p6 H6 n6 s6 d6 => ?_
    wtm_at "w"
    rw [show (n + 1).toNat = n.toNat + 1 by omega] at d6
    refine c_first_missing (sq_h d6) fun H7 s7 => ?_
    exact k _ (((((s2.trans s3).trans s4).trans s5).trans s6).trans s7)
/-! ### the law's own sets -/
def CW : Int := 1000000000000000000000000000005
def BW : Int := 2 ^ 200
structure Good (ws : List Int) : Prop where
  pos : Pos ws
  len : ws.length ≤ 119
  big : ∀ x ∈ ws, x ≤ BW
theorem Good.line {ws : List Int} (h : Good ws) : ws.length ≤ 16777215 := Nat.le_trans h.len (by decide)
def sp_law_set (K : PySem.W.Frag) (_ : Ca) : Sp := fun vs H Q _ => ∃ (a : Addr) (ns : List Int), vs = [.ref a] ∧ SqL K H a (ns.map V.int) ∧ ns.length ≤ 63 ∧ ∀ ws, Good ws → RetL ws H Q
theorem c_law_set {a : Addr} {ns : List Int} {H : Hp} {Q : VK} {E : XK} (h : SqL K H a (ns.map V.int)) (hz : ns.length ≤ 63) (k : ∀ ws p H2, Good ws → H p = none → Same H H2 → H2 p = some (.lst (ws.map V.int)) → Q (.ref p) H2) : sp_law_set K c [.ref a] H Q E :=
  ⟨a, ns, rfl, h, hz, fun ws hw p H2 h1 h2 h3 => k ws p H2 hw h1 h2 h3⟩
theorem Good.sum {ws : List Int} (h : Good ws) : 0 ≤ ws.sum ∧ ws.sum ≤ 119 * BW := by
  refine ⟨pos_sum h.pos, ?_⟩
  have : ∀ l : List Int, (∀ x ∈ l, x ≤ BW) → l.sum ≤ (l.length : Int) * BW := by
    intro l
    induction l with
    | nil => intro _; simp
    | cons a r ih =>
      intro hb
      have h1 := hb a List.mem_cons_self
      have h2 := ih fun x hx => hb x (List.mem_cons_of_mem _ hx)
      rw [List.sum_cons, List.length_cons, Int.natCast_add, Int.add_mul]
      omega
  have h1 := this ws h.big
  have h2 : (ws.length : Int) * BW ≤ 119 * BW := Int.mul_le_mul_of_nonneg_right (by have := h.len; omega) (by decide)
  omega
theorem Good.sum_lt {ws : List Int} (h : Good ws) : ws.sum.natAbs < 2 ^ 210 := by
  have ⟨h1, h2⟩ := h.sum
  have h3 : (119 : Int) * BW < 2 ^ 210 := by decide
  omega
structure Grow (acc : List Int) : Prop where
  pos : Pos acc
  big : acc.sum + CW ≤ 2 ^ acc.length * CW
theorem Grow.nil : Grow [] := ⟨Pos.nil, by decide⟩
theorem Grow.put {acc : List Int} {x : Int} (h : Grow acc) (h1 : 1 ≤ x) (h2 : x ≤ acc.sum + CW) : Grow (acc ++ [x]) := by
  refine ⟨h.pos.append (Pos.one h1), ?_⟩
  have hb := h.big
  rw [List.sum_append_int, List.sum_cons, List.sum_nil, List.length_append, List.length_singleton, Int.pow_succ]
  have e : (2 : Int) ^ acc.length * 2 * CW = 2 * ((2 : Int) ^ acc.length * CW) := by rw [Int.mul_comm ((2 : Int) ^ acc.length) 2, Int.mul_assoc]
  rw [e]
  omega
theorem mem_le_sum {l : List Int} (h : Pos l) {x : Int} (hx : x ∈ l) : x ≤ l.sum := by
  have e := (List.perm_cons_erase hx)
  rw [perm_sum e, List.sum_cons]
  have := pos_sum (h.sub fun y hy => List.mem_of_mem_erase (a := y) (b := x) hy)
  omega
theorem Grow.le {acc : List Int} (h : Grow acc) (hl : acc.length ≤ 63) {x : Int} (hx : x ∈ acc) : x ≤ 2 ^ 170 := by
  have h1 := mem_le_sum h.pos hx
  have h2 := h.big
  have h3 : (2 : Int) ^ acc.length ≤ 2 ^ 63 := by
    have := Nat.pow_le_pow_right (show 0 < 2 by decide) hl
    exact_mod_cast this
  have h4 : (2 : Int) ^ acc.length * CW ≤ 2 ^ 63 * CW := Int.mul_le_mul_of_nonneg_right h3 (by decide)
  have h5 : (2 : Int) ^ 63 * CW ≤ 2 ^ 170 := by decide
  have h6 : (0 : Int) ≤ CW := by decide
  omega
theorem ok_law_set {f : Addr} {fd : FuncData} (A : At K mg "_law_set" sLawSet ["_law_script"] f fd) (T : Tx K mg c) : FnAt P w K mg base CX0 1 "_law_set" ["_law_script"] (sp_law_set K c) f fd := by
  refine ⟨A.g, A.F.kp, A.b, A.F.ok sc_sLawSet (fun vs H Q E h => ?_) (fun cdv Ar outer s H vs Q E hr h => ?_)⟩
  · obtain ⟨a, ns, rfl, _⟩ := h
    rfl
  · obtain ⟨a, ns, rfl, hS, hz, k⟩ := h
    refine ⟨(tSeq (tAsg (tCB (rSum K) (tCons (tVar 0) tNil)) (gName 1))
  (tSeq (tAsg (tOp (rI (fun _ j => 0 < j) fun i j => .int (i % j)) (tOp (rI CDiv fun i j => .int (i / j)) (tVar 1) (tC (.int 7))) (tC (.int 5))) (gName 2))
  (tSeq (tAsg (tLst tNil) (gName 3))
  (tSeq (tAsg (tC (.int 0)) (gName 4))
  (tSeq (tFor (iList K (tVar 0)) (gName 5) (Evl.tCut (tIfS (tTest (tOp (rI0 fun i j => .bl (decide (i < j))) (tVar 2) (tC (.int 2)))) (tAsg (tOp (rI0 fun i j => .int (i + j)) (tC (.int 1)) (tOp (rI (fun _ j => 0 < j) fun i j => .int (i % j)) (tVar 5) (tOp (rIxT K) (tTup (tCons (tC (.int 6)) (tCons (tOp (rI CPow fun i j => .int (i ^ j.toNat)) (tC (.int 10)) (tC (.int 30))) tNil))) (tVar 2)))) (gName 6)) (tIfS (tTest (tOp rEq (tVar 2) (tC (.int 2)))) (tAsg (tOp (rI0 fun i j => .int (i + j)) (tC (.int 1)) (tOp (rI (fun _ j => 0 < j) fun i j => .int (i % j)) (tVar 5) (tC (.int 60)))) (gName 6)) (tSeq (tAsg (tOp (rI0 fun i j => .int (i + j)) (tC (.int 1)) (tOp (rI (fun _ j => 0 < j) fun i j => .int (i % j)) (tVar 5) (tOp (rI0 fun i j => .int (i + j)) (tVar 4) (tC (.int 1))))) (gName 6))
  (tIfS (tAnd (tTest (tOp rEq (tVar 2) (tC (.int 4)))) (tTest (tOp rEq (tOp (rI (fun _ j => 0 < j) fun i j => .int (i % j)) (tOp (rI CDiv fun i j => .int (i / j)) (tVar 5) (tC (.int 7))) (tC (.int 9))) (tC (.int 0))))) (tAsg (tOp (rI0 fun i j => .int (i + j)) (tOp (rI0 fun i j => .int (i + j)) (tVar 4) (tC (.int 2))) (tOp (rI (fun _ j => 0 < j) fun i j => .int (i % j)) (tOp (rI CDiv fun i j => .int (i / j)) (tVar 5) (tC (.int 63))) (tC (.int 4)))) (gName 6)) tNext))))
  (tSeq (tDrop (tBM K "list" rAppend (tVar 3) (tCons (tVar 6) tNil)))
  (tAsg (tOp (rI0 fun i j => .int (i + j)) (tVar 4) (tVar 6)) (gName 4)))))
  (Evl.tCut (tIfS (tTest (tOp rEq (tOp (rI (fun _ j => 0 < j) fun i j => .int (i % j)) (tOp (rI CDiv fun i j => .int (i / j)) (tVar 1) (tC (.int 5))) (tC (.int 3))) (tC (.int 1)))) (tAsg (tRevL K (tVar 3)) (gName 3)) tNext)
  (Evl.tCut (tIfS (tAnd (tTest (tOp rEq (tOp (rI (fun _ j => 0 < j) fun i j => .int (i % j)) (tOp (rI CDiv fun i j => .int (i / j)) (tVar 1) (tC (.int 15))) (tC (.int 9))) (tC (.int 2)))) (tTest (tOp (rNeD K) (tVar 3) (tLst tNil)))) (tAsg (tLc (iRng1 (tCons (tOp (rI0 fun i j => .int (i + j)) (tC (.int 80)) (tOp (rI (fun _ j => 0 < j) fun i j => .int (i % j)) (tVar 1) (tC (.int 40)))) tNil)) (gName 7) tYes (tOp (rI0 fun i j => .int (i + j)) (tOp (rIxL K) (tVar 3) (tOp (rI (fun _ j => 0 < j) fun i j => .int (i % j)) (tOp (rI CMulX fun i j => .int (i * j)) (tVar 7) (tVar 7)) (tCB (rLen K) (tCons (tVar 3) tNil)))) (tOp (rI CDiv fun i j => .int (i / j)) (tVar 7) (tCB (rLen K) (tCons (tVar 3) tNil)))) [7]) (gName 3)) tNext)
  (tRet (tVar 3))))))))), (pss_cons (ps_set (i := 1) sc_sLawSet.nd rfl (Or.inl rfl) (pe_callB (cr_sum rfl) (by rfl) T.z_sum bt_sum (pa_cons (pv 0) pa_nil)))
  (pss_cons (ps_set (i := 2) sc_sLawSet.nd rfl (Or.inl rfl) (pe_op op_mod (pe_op op_fdiv (pv 1) pe_int) pe_int))
  (pss_cons (ps_set (i := 3) sc_sLawSet.nd rfl (Or.inr rfl) (pe_lst pa_nil))
  (pss_cons (ps_set (i := 4) sc_sLawSet.nd rfl (Or.inl rfl) pe_int)
  (pss_cons (ps_for PassesOwn.never rfl (pi_list (pv 0)) (pg_name (i := 5) sc_sLawSet.nd rfl (Or.inl rfl)) (Evl.pss_cut (ps_if (pt_cmpR op_lt (pv 2) pe_int (nomark _)) (pss_one (ps_set (i := 6) sc_sLawSet.nd rfl (Or.inl rfl) (pe_op op_add pe_int (pe_op op_mod (pv 5) (pe_ix ix_tup (pe_tup (pa_cons pe_int (pa_cons (pe_op op_pow pe_int pe_int) pa_nil))) (pv 2) (fun _ _ => rfl)))))) (pss_one (ps_if (pt_cmpR op_eq (pv 2) pe_int (nomark _)) (pss_one (ps_set (i := 6) sc_sLawSet.nd rfl (Or.inl rfl) (pe_op op_add pe_int (pe_op op_mod (pv 5) pe_int)))) (pss_cons (ps_set (i := 6) sc_sLawSet.nd rfl (Or.inl rfl) (pe_op op_add pe_int (pe_op op_mod (pv 5) (pe_op op_add (pv 4) pe_int))))
        (pss_one (ps_if (PW.pt (pw_and (pt_cmpR op_eq (pv 2) pe_int (nomark _)) (pw_and1 (pt_cmpR op_eq (pe_op op_mod (pe_op op_fdiv (pv 5) pe_int) pe_int) pe_int (nomark _))))) (pss_one (ps_set (i := 6) sc_sLawSet.nd rfl (Or.inl rfl) (pe_op op_add (pe_op op_add (pv 4) pe_int) (pe_op op_mod (pe_op op_fdiv (pv 5) pe_int) pe_int)))) pss_nil))))))
    (pss_cons (ps_expr (pe_bm PySem.F.plainAttrs_list PySem.F.slot_list_append PySem.F.type_list_append mt_append (pv 3) (pa_cons (pv 6) pa_nil)))
    (pss_one (ps_set (i := 4) sc_sLawSet.nd rfl (Or.inl rfl) (pe_op op_add (pv 4) (pv 6)))))))
  (Evl.pss_cut (ps_if (pt_cmpR op_eq (pe_op op_mod (pe_op op_fdiv (pv 1) pe_int) pe_int) pe_int (nomark _)) (pss_one (ps_set (i := 3) sc_sLawSet.nd rfl (Or.inr rfl) (pe_revL (pv 3)))) pss_nil)
  (Evl.pss_cut (ps_if (PW.pt (pw_and (pt_cmpR op_eq (pe_op op_mod (pe_op op_fdiv (pv 1) pe_int) pe_int) pe_int (nomark _)) (pw_and1 (pt_cmpR (op_neD hr.units) (pv 3) (pe_lst pa_nil) (nomark _))))) (pss_one (ps_set (i := 3) sc_sLawSet.nd rfl (Or.inr rfl) (pe_lc (own := [("_law_at", 7)]) (g := gName 7) (tt := tYes) (te := (tOp (rI0 fun i j => .int (i + j)) (tOp (rIxL K) (tVar 3) (tOp (rI (fun _ j => 0 < j) fun i j => .int (i % j)) (tOp (rI CMulX fun i j => .int (i * j)) (tVar 7) (tVar 7)) (tCB (rLen K) (tCons (tVar 3) tNil)))) (tOp (rI CDiv fun i j => .int (i / j)) (tVar 7) (tCB (rLen K) (tCons (tVar 3) tNil))))) rfl sc_sLawSet.nd (pi_range1 (by rfl) T.z_range (pa_cons (pe_op op_add pe_int (pe_op op_mod (pv 1) pe_int)) pa_nil)) (blkOk_by (N := ["_law_script", "_law_mixed", "_law_kind", "_law_found", "_law_whole", "_law_cell", "_law_weight", "_law_at"]) (sc := defScope sLawSet) (by decide +kernel)) (fun _ _ _ _ _ => (pg_name (i := 7) sc_sLawSet.nd rfl (Or.inl rfl))) (fun _ _ _ _ _ => pts_nil) (fun _ _ _ _ _ => (pe_op op_add (pe_ix ix_list (pv 3) (pe_op op_mod (pe_op op_mulX (pv 7) (pv 7)) (pe_callB call_lenK (by rfl) T.z_len bt_len (pa_cons (pv 3) pa_nil))) (fun _ _ => rfl)) (pe_op op_fdiv (pv 7) (pe_callB call_lenK (by rfl) T.z_len bt_len (pa_cons (pv 3) pa_nil)))))))) pss_nil)
  (pss_one (ps_ret (pv 3)))))))))), ?_⟩
    refine w_start (σ := [some _, none, none, none, none, none, none, none]) rfl ?_
    wtm_at "w"
    refine v_newL (n := 0) (by decide) fun l H1 h1 s1 d1 => ?_
    wtm_at "w"
    generalize hmx : ns.sum = mx
    generalize hkd : mx / 7 % 5 = kd
    have hk : 0 ≤ kd ∧ kd < 5 := by omega
    refine v_forI (by wtm_at "sq") (fun r σ' H' => ∃ (acc : List Int) (y5 y6 : Option V), σ' = [some (.ref a), some (.int mx), some (.int kd), some (.ref l), some (.int acc.sum), y5, y6, none] ∧ acc.length + r.length = ns.length ∧ Grow acc ∧ Same H H' ∧ H' l = some (.lst (acc.map V.int)))
      ⟨[], none, none, rfl, Nat.zero_add _, Grow.nil, s1, d1⟩ (fun r σ' H' h => by obtain ⟨_, _, _, _, _, _, s, _⟩ := h; exact s.seq hS) ?_ ?_
    · rintro pre n r σ' H' _ ⟨acc, y5, y6, rfl, hlen, hg, s, d⟩
      have hcw : (0 : Int) ≤ CW := by decide
      have hsum := pos_sum hg.pos
      wtm_at "w"
      refine w_cut (fun σ' H' => ∃ x : Int, σ' = [some (.ref a), some (.int mx), some (.int kd), some (.ref l), some (.int acc.sum), some (.int n), some (.int x), none] ∧ 1 ≤ x ∧ x ≤ acc.sum + CW ∧ Same H H' ∧ H' l = some (.lst (acc.map V.int))) ?_ ?_
      · wtm_at "w"
        refine v_if (fun hc => ?_) (fun hc => ?_)
        · have hc' := of_decide_eq_true hc
          wtm_at "w"
          refine v_newL (n := 2) (by decide) fun t H2 h2 s2 d2 => ?_
          wtm_at "w"
          have hk01 : kd = 0 ∨ kd = 1 := by omega
          rcases hk01 with e | e
          · refine v_ixT (st_h d2) (v := .int 6) (by rw [e]; exact atI_nat (j := 0) rfl) ?_
            wtm_at "w"
            exact ⟨_, rfl, by omega, by unfold CW at *; omega, s.trans s2, s2 _ _ d⟩
          · refine v_ixT (st_h d2) (v := .int (10 ^ (30 : Int).toNat)) (by rw [e]; exact atI_nat (j := 1) rfl) ?_
            wtm_at "w"
            have e30 : (10 : Int) ^ (30 : Int).toNat = 1000000000000000000000000000000 := by decide
            rw [e30]
            refine v_I (by show (0 : Int) < _; decide) ?_
            wtm_at "w"
            have m1 := Int.emod_nonneg n (show (1000000000000000000000000000000 : Int) ≠ 0 by decide)
            have m2 := Int.emod_lt_of_pos n (show (0 : Int) < 1000000000000000000000000000000 by decide)
            exact ⟨_, rfl, by omega, by unfold CW at *; omega, s.trans s2, s2 _ _ d⟩
        · wtm_at "w"
          refine v_if (fun hc2 => ?_) (fun hc2 => ?_)
          · wtm_at "w"
            exact ⟨_, rfl, by omega, by unfold CW at *; omega, s, d⟩
          · wtm_at "w"
            have m1 := Int.emod_nonneg n (show acc.sum + 1 ≠ 0 by omega)
            have m2 := Int.emod_lt_of_pos n (show 0 < acc.sum + 1 by omega)
            refine v_and (d := decide (n / 7 % 9 = 0)) (fun _ q hq => ?_) (fun H2 s2 => ?_)
            · wtm_at "w"
              exact hq _ (Same.refl _)
            · refine v_if (fun hc3 => ?_) (fun hc3 => ?_)
              · wtm_at "w"
                exact ⟨_, rfl, by omega, by unfold CW at *; omega, s.trans s2, s2 _ _ d⟩
              · wtm_at "w"
                exact ⟨_, rfl, by omega, by unfold CW at *; omega, s.trans s2, s2 _ _ d⟩
      · rintro σ' H' ⟨x, rfl, hx1, hx2, s', d'⟩
        wtm_at "w"
        have hacc : acc.length ≤ 63 := by omega
        refine v_ty (sq_h d') ?_
        wtm_at "w"
        refine v_app d' (by rw [List.length_map]; omega) ?_
        wtm_at "w"
        refine ⟨acc ++ [x], some (.int n), some (.int x), ?_, ?_, hg.put hx1 hx2, same_mut s' h1, ?_⟩
        · rw [List.sum_append_int, List.sum_cons, List.sum_nil, Int.add_zero]
          rfl
        · rw [List.length_append, List.length_singleton, ← hlen, List.length_cons]; omega
        · rw [upd_same, List.map_append]; rfl
    · rintro σ' H' ⟨acc, y5, y6, rfl, hlen, hg, s, d⟩
      have hacc : acc.length ≤ 63 := by rw [List.length_nil] at hlen; omega
      wtm_at "w"
      refine w_cut (fun σ' H' => ∃ (l2 : Addr) (ws : List Int), σ' = [some (.ref a), some (.int mx), some (.int kd), some (.ref l2), some (.int acc.sum), y5, y6, none] ∧ Pos ws ∧ ws.length ≤ 63 ∧ (∀ x ∈ ws, x ≤ 2 ^ 170) ∧ Same H H' ∧ H l2 = none ∧ H' l2 = some (.lst (ws.map V.int))) ?_ ?_
      · wtm_at "w"
        refine v_if (fun hc => ?_) (fun hc => ?_)
        · wtm_at "w"
          refine v_rev (sq_h d) fun p H2 hp s2 d2 => ?_
          wtm_at "w"
          exact ⟨p, _, rfl, hg.pos.sub fun x hx => List.mem_reverse.mp hx, by rw [List.length_reverse]; exact hacc, fun x hx => hg.le hacc (List.mem_reverse.mp hx), s.trans s2, s.free hp, d2⟩
        · wtm_at "w"
          exact ⟨l, _, rfl, hg.pos, hacc, fun x hx => hg.le hacc hx, s, h1, d⟩
      · rintro σ' H' ⟨l2, ws, rfl, hp, hl, hb, s', n2, d'⟩
        refine w_cut (fun σ' H' => ∃ (l3 : Addr) (us : List Int) (y7 : Option V), σ' = [some (.ref a), some (.int mx), some (.int kd), some (.ref l3), some (.int acc.sum), y5, y6, y7] ∧ Good us ∧ Same H H' ∧ H l3 = none ∧ H' l3 = some (.lst (us.map V.int))) ?_ ?_
        · wtm_at "w"
          refine v_and (d := !decide (ws = [])) (fun _ q hq => ?_) (fun H2 s2 => ?_)
          · wtm_at "w"
            refine v_newL (n := 0) (by decide) fun e H3 he s3 d3 => ?_
            wtm_at "w"
            refine v_neL (ns := ws) (ms := []) (sq_h (s3 _ _ d')) (sq_h d3) ?_
            wtm_at "w"
            exact hq _ s3
          · refine v_if (fun hc => ?_) (fun hc => ?_)
            · have hne : ws ≠ [] := by
                intro e
                rw [e] at hc
                simp at hc
              have hlen1 : 0 < ws.length := List.length_pos_iff.mpr hne
              have hr : 0 ≤ mx % 40 ∧ mx % 40 < 40 := by omega
              have d2 : H2 l2 = some (.lst (ws.map V.int)) := s2 _ _ d'
              wtm_at "w"
              refine v_lcR (σ2 := fun i => [some (.ref a), some (.int mx), some (.int kd), some (.ref l2), some (.int acc.sum), y5, y6, some (.int (i : Int))]) (fun _ => true) (fun i => .int (ws.getD ((i : Int) * i % ws.length).toNat 0 + (i : Int) / ws.length)) (by omega) (by omega) (fun _ => rfl) (fun _ => rfl) (fun n H' _ _ R h => t_yes h) (fun i H3 hi _ s3 R h => ?_) (fun D H3 hD s3 d3 => ?_)
              · have m1 := Int.emod_nonneg ((i : Int) * i) (show (ws.length : Int) ≠ 0 by omega)
                have m2 := Int.emod_lt_of_pos ((i : Int) * i) (show (0 : Int) < (ws.length : Int) by omega)
                wtm_at "w"
                refine v_I (mulx_ok (a := 20) (b := 20) (by omega) (by omega) (by decide)) ?_
                wtm_at "w"
                exact h _ (Same.refl _)
              · rw [filter_yes, map_int] at d3
                wtm_at "w"
                refine ⟨D, _, _, rfl, ⟨fun x hx => ?_, ?_, fun x hx => ?_⟩, (s'.trans s2).trans s3, s'.free (s2.free hD), d3⟩
                · obtain ⟨i, hi, rfl⟩ := List.mem_map.mp hx
                  have m1 := Int.emod_nonneg ((i : Int) * i) (show (ws.length : Int) ≠ 0 by omega)
                  have m2 := Int.emod_lt_of_pos ((i : Int) * i) (show (0 : Int) < (ws.length : Int) by omega)
                  have := hp _ (getD_mem (ns := ws) (j := ((i : Int) * i % ws.length).toNat) (by omega))
                  have : 0 ≤ (i : Int) / ws.length := Int.ediv_nonneg (by omega) (by omega)
                  omega
                · rw [List.length_map, List.length_range]; omega
                · obtain ⟨i, hi, rfl⟩ := List.mem_map.mp hx
                  have hi' := List.mem_range.mp hi
                  have m1 := Int.emod_nonneg ((i : Int) * i) (show (ws.length : Int) ≠ 0 by omega)
                  have m2 := Int.emod_lt_of_pos ((i : Int) * i) (show (0 : Int) < (ws.length : Int) by omega)
                  have b1 := hb _ (getD_mem (ns := ws) (j := ((i : Int) * i % ws.length).toNat) (by omega))
                  have b2 : (i : Int) / ws.length ≤ i := Int.ediv_le_self _ (by omega)
                  have b3 : (2 : Int) ^ 170 + 119 ≤ BW := by decide
                  omega
            · wtm_at "w"
              have b3 : (2 : Int) ^ 170 ≤ BW := by decide
              exact ⟨l2, ws, _, rfl, ⟨hp, by omega, fun x hx => by have := hb x hx; omega⟩, s'.trans s2, n2, s2 _ _ d'⟩
        · rintro σ' H' ⟨l3, us, y7, rfl, hgood, s3, n3, d3⟩
          wtm_at "w"
          exact k us hgood l3 H' n3 s3 d3
def sp_law_gap (K : PySem.W.Frag) (_ : Ca) : Sp := fun vs H Q _ => ∃ (a : Addr) (ns : List Int), vs = [.ref a] ∧ SqL K H a (ns.map V.int) ∧ Ret (.int (lg ns)) H Q
theorem c_law_gap {a : Addr} {ns : List Int} {H : Hp} {Q : VK} {E : XK} (h : SqL K H a (ns.map V.int)) (k : ∀ H2, Same H H2 → Q (.int (lg ns)) H2) : sp_law_gap K c [.ref a] H Q E := ⟨a, ns, rfl, h, k⟩
theorem ok_law_gap {f : Addr} {fd : FuncData} (A : At K mg "_law_gap" sLawGap ["_law_weights"] f fd) (T : Tx K mg c) : FnAt P w K mg base CX0 1 "_law_gap" ["_law_weights"] (sp_law_gap K c) f fd := by
  refine ⟨A.g, A.F.kp, A.b, A.F.ok sc_sLawGap (fun vs H Q E h => ?_) (fun cdv Ar outer s H vs Q E hr h => ?_)⟩
  · obtain ⟨a, ns, rfl, _⟩ := h
    rfl
  · obtain ⟨a, ns, rfl, hS, k⟩ := h
    refine ⟨(tSeq (tAsg (tC (.int 0)) (gName 1))
  (tSeq (tFor (iList K (tCB (rSortedI K) (tCons (tVar 0) tNil))) (gName 2) (tSeq (tIfS (tTest (tOp (rI0 fun i j => .bl (decide (j < i))) (tVar 2) (tOp (rI0 fun i j => .int (i + j)) (tVar 1) (tC (.int 1))))) (tRet (tOp (rI0 fun i j => .int (i + j)) (tVar 1) (tC (.int 1)))) tNext)
  (tAsg (tOp (rI0 fun i j => .int (i + j)) (tVar 1) (tVar 2)) (gName 1))))
  (tRet (tOp (rI0 fun i j => .int (i + j)) (tVar 1) (tC (.int 1)))))), (pss_cons (ps_set (i := 1) sc_sLawGap.nd rfl (Or.inl rfl) pe_int)
  (pss_cons (ps_for PassesOwn.never rfl (pi_list (pe_callB cr_sortedI (by rfl) T.z_sorted bt_sorted (pa_cons (pv 0) pa_nil))) (pg_name (i := 2) sc_sLawGap.nd rfl (Or.inl rfl)) (pss_cons (ps_if (pt_cmpR op_gt (pv 2) (pe_op op_add (pv 1) pe_int) (nomark _)) (pss_one (ps_ret (pe_op op_add (pv 1) pe_int))) pss_nil)
    (pss_one (ps_set (i := 1) sc_sLawGap.nd rfl (Or.inl rfl) (pe_op op_add (pv 1) (pv 2))))))
  (pss_one (ps_ret (pe_op op_add (pv 1) pe_int))))), ?_⟩
    refine w_start (σ := [some _, none, none]) rfl ?_
    wtm_at "w"
    refine v_sorted hS fun p H2 hp s2 d2 => ?_
    refine v_forI (sq_h d2) (fun r σ' H' => ∃ (W : Int) (y : Option V), σ' = [some (.ref a), some (.int W), y] ∧ gp W r = lg ns ∧ Same H2 H') ⟨0, none, rfl, rfl, Same.refl _⟩ (fun r σ' H' h => h.choose_spec.choose_spec.2.2.seq (sq_h d2)) ?_ ?_
    · rintro pre n r σ' H' _ ⟨W, y, rfl, e, s⟩
      have e2 : (if n > W + 1 then W + 1 else gp (W + n) r) = lg ns := e
      wtm_at "w"
      refine v_if (fun hc => ?_) (fun hc => ?_)
      · wtm_at "w"
        rw [if_pos (show n > W + 1 from of_decide_eq_true hc)] at e2
        rw [e2]
        exact k _ (s2.trans s)
      · wtm_at "w"
        rw [if_neg (show ¬ n > W + 1 from of_decide_eq_false hc)] at e2
        exact ⟨_, _, rfl, e2, s⟩
    · rintro σ' H' ⟨W, y, rfl, e, s⟩
      have e2 : W + 1 = lg ns := e
      wtm_at "w"
      rw [e2]
      exact k _ (s2.trans s)
/-! ### the law's own look at a Best -/
def sp_law_due (K : PySem.W.Frag) (_ : Ca) : Sp := fun vs H Q _ => ∃ (a l k : Addr) (ws xs ys : List Int) (m : Int), vs = [.ref a, .int m, .ref l, .ref k] ∧ H a = some (.lst (ws.map V.int)) ∧ H l = some (.lst (xs.map V.int)) ∧ SqL K H k (ys.map V.int) ∧ ws.length + xs.length ≤ 16777215 ∧ Ret (.bl (duB ws m xs ys)) H Q
theorem c_law_due {a l k : Addr} {ws xs ys : List Int} {m : Int} {H : Hp} {Q : VK} {E : XK} (ha : H a = some (.lst (ws.map V.int))) (hl : H l = some (.lst (xs.map V.int))) (hk : SqL K H k (ys.map V.int)) (hz : ws.length + xs.length ≤ 16777215) (q : ∀ H2, Same H H2 → Q (.bl (duB ws m xs ys)) H2) :
    sp_law_due K c [.ref a, .int m, .ref l, .ref k] H Q E := ⟨a, l, k, ws, xs, ys, m, rfl, ha, hl, hk, hz, q⟩
theorem ok_law_due {f f0 : Addr} {fd fd0 : FuncData} (A : At K mg "_law_due" sLawDue ["_law_weights", "_law_most", "_law_added", "_law_misses"] f fd) (T : Tx K mg c) (G_law_gap : FnAt P w K mg base CX0 1 "_law_gap" ["_law_weights"] (sp_law_gap K c) f0 fd0) : FnAt P w K mg base CX0 2 "_law_due" ["_law_weights", "_law_most", "_law_added", "_law_misses"] (sp_law_due K c) f fd := by
  refine ⟨A.g, A.F.kp, A.b, A.F.ok sc_sLawDue (fun vs H Q E h => ?_) (fun cdv Ar outer s H vs Q E hr h => ?_)⟩
  · obtain ⟨a, l, k, ws, xs, ys, m, rfl, _⟩ := h
    rfl
  · obtain ⟨a, l, k, ws, xs, ys, m, rfl, ha, hl, hk, hz, q⟩ := h
    refine ⟨(tSeq (tIfS (tOr (tTest (tOp rNe (tCB (rLen K) (tCons (tVar 2) tNil)) (tCB (rLen K) (tCons (tVar 3) tNil)))) (tOr (tB (tCB (rAny K) (tCons (tLc (iList K (tVar 2)) (gName 8) tYes (tOp (rI0 fun i j => .bl (decide (i < j))) (tVar 8) (tC (.int 1))) [8]) tNil))) (tTest (tOp (rI0 fun i j => .bl (decide (i ≤ j))) (tCall (sp_law_gap K c) [] E0 (tCons (tOp rCat (tVar 0) (tVar 2)) tNil)) (tVar 1))))) (tRet (tC (.bl false))) tNext)
  (tSeq (tAsg (tCB (rSortedI K) (tCons (tVar 0) tNil)) (gName 4))
  (tSeq (tAsg (tC (.int 0)) (gName 5))
  (tSeq (tAsg (tC (.int 0)) (gName 6))
  (tSeq (tFor (iList K (tVar 3)) (gName 7) (tSeq (tIfS (tNot (tTest (tChain (rI0 fun i j => .bl (decide (i < j))) (rI0 fun i j => .bl (decide (i ≤ j))) (tVar 6) (tVar 7) (tVar 1)))) (tRet (tC (.bl false))) tNext)
  (tSeq (tWhile (tAnd (tTest (tOp (rNeD K) (tVar 4) (tLst tNil))) (tTest (tOp (rI0 fun i j => .bl (decide (i < j))) (tOp (rIxL K) (tVar 4) (tC (.int 0))) (tVar 7)))) (tAsg (tOp (rI0 fun i j => .int (i + j)) (tVar 5) (tBM K "list" rPopAt (tVar 4) (tCons (tC (.int 0)) tNil))) (gName 5)))
  (tSeq (tIfS (tOr (tTest (tOp (rEqD K) (tSl (rSlL K) (tVar 4) tNoPart (tPart (tC (.int 1)))) (tLst (tCons (tVar 7) tNil)))) (tTest (tOp rNe (tOp (rI0 fun i j => .int (i + j)) (tVar 5) (tVar 6)) (tOp (rI0 fun i j => .int (i - j)) (tVar 7) (tC (.int 1)))))) (tRet (tC (.bl false))) tNext)
  (tAsg (tOp (rI0 fun i j => .int (i + j)) (tVar 6) (tVar 7)) (gName 6))))))
  (tRet (tC (.bl true)))))))), (pss_cons (ps_if (PW.pt (pw_or (pt_cmpR op_ne (pe_callB call_lenK (by rfl) T.z_len bt_len (pa_cons (pv 2) pa_nil)) (pe_callB call_lenK (by rfl) T.z_len bt_len (pa_cons (pv 3) pa_nil)) (nomark _)) (pw_or (pt_val (pe_callB (cr_any rfl) (by rfl) T.z_any bt_any (pa_cons (pe_lc (own := [("_law_weight", 8)]) (g := gName 8) (tt := tYes) (te := (tOp (rI0 fun i j => .bl (decide (i < j))) (tVar 8) (tC (.int 1)))) rfl sc_sLawDue.nd (pi_list (pv 2)) (blkOk_by (N := ["_law_weights", "_law_most", "_law_added", "_law_misses", "_law_order", "_law_whole", "_law_ahead", "_law_miss", "_law_weight"]) (sc := defScope sLawDue) (by decide +kernel)) (fun _ _ _ _ _ => (pg_name (i := 8) sc_sLawDue.nd rfl (Or.inl rfl))) (fun _ _ _ _ _ => pts_nil) (fun _ _ _ _ _ => (pe_cmpR op_lt (pv 8) pe_int (nomark _)))) pa_nil))) (pw_or1 (pt_cmpR op_le (pe_call G_law_gap.ok (hr.mono (by decide)) (by rfl) G_law_gap.g G_law_gap.kp G_law_gap.b .nil pass0 (pa_cons (pe_op op_cat (pv 0) (pv 2)) pa_nil)) (pv 1) (nomark _)))))) (pss_one (ps_ret pe_bl)) pss_nil)
  (pss_cons (ps_set (i := 4) sc_sLawDue.nd rfl (Or.inl rfl) (pe_callB cr_sortedI (by rfl) T.z_sorted bt_sorted (pa_cons (pv 0) pa_nil)))
  (pss_cons (ps_set (i := 5) sc_sLawDue.nd rfl (Or.inl rfl) pe_int)
  (pss_cons (ps_set (i := 6) sc_sLawDue.nd rfl (Or.inl rfl) pe_int)
  (pss_cons (ps_for PassesOwn.never rfl (pi_list (pv 3)) (pg_name (i := 7) sc_sLawDue.nd rfl (Or.inl rfl)) (pss_cons (ps_if (pt_not (pt_chain op_lt op_le (pv 6) (pv 7) (pv 1))) (pss_one (ps_ret pe_bl)) pss_nil)
    (pss_cons (ps_while PassesOwn.never (PW.pt (pw_and (pt_cmpR (op_neD hr.units) (pv 4) (pe_lst pa_nil) (nomark _)) (pw_and1 (pt_cmpR op_lt (pe_ix ix_list (pv 4) pe_int (fun _ _ => rfl)) (pv 7) (nomark _))))) (pss_one (ps_set (i := 5) sc_sLawDue.nd rfl (Or.inl rfl) (pe_op op_add (pv 5) (pe_bm PySem.F.plainAttrs_list PySem.F.slot_list_pop PySem.F.type_list_pop mt_popAt (pv 4) (pa_cons pe_int pa_nil))))))
    (pss_cons (ps_if (PW.pt (pw_or (pt_cmpR (op_eqD hr.units) (pe_slice sl_list (pv 4) po_none (po_some pe_int)) (pe_lst (pa_cons (pv 7) pa_nil)) (nomark _)) (pw_or1 (pt_cmpR op_ne (pe_op op_add (pv 5) (pv 6)) (pe_op op_sub (pv 7) pe_int) (nomark _))))) (pss_one (ps_ret pe_bl)) pss_nil)
    (pss_one (ps_set (i := 6) sc_sLawDue.nd rfl (Or.inl rfl) (pe_op op_add (pv 6) (pv 7))))))))
  (pss_one (ps_ret pe_bl))))))), ?_⟩
    refine w_start (σ := [some _, some _, some _, some _, none, none, none, none, none]) rfl ?_
    wtm_at "w"
    refine v_or (d := (xs.any (fun n => decide (n < 1)) || decide (lg (ws ++ xs) ≤ m))) (fun _ r hr2 => ?_) (fun H2 s2 => ?_)
    · wtm_at "w"
      refine v_lcI (σ2 := fun n => [some (.ref a), some (.int m), some (.ref l), some (.ref k), none, none, none, none, some (.int n)]) (fun _ => true) (fun n => .bl (decide (n < 1))) (sq_h hl) (by omega) (fun _ => rfl) (fun _ _ => rfl) (fun n H' _ _ R h => t_yes h) (fun n H' hn _ s1 R h => ?_) (fun D H2 hD s2 d2 => ?_)
      · wtm_at "w"
        exact h _ (Same.refl _)
      · rw [filter_yes, map_bl] at d2
        wtm_at "w"
        refine v_any (sq_h d2) ?_
        wtm_at "w"
        rw [any_map]
        refine v_or (d := decide (lg (ws ++ xs) ≤ m)) (fun _ r2 hr3 => ?_) (fun H3 s3 => hr2 _ (s2.trans s3))
        wtm_at "w"
        refine v_cat (ns := ws) (ms := xs) (s2 _ _ ha) (s2 _ _ hl) hz fun p3 H3 n3 s3 d3 => ?_
        wtm_at "w"
        refine c_law_gap (sq_h d3) fun H4 s4 => ?_
        wtm_at "w"
        exact hr3 _ (s3.trans s4)
    refine v_if (fun hc => ?_) (fun hc => ?_)
    · wtm_at "w"
      have e : duB ws m xs ys = false := by
        refine if_pos ?_
        rw [Bool.or_eq_true, Bool.or_eq_true] at hc
        rcases hc with hc | hc | hc
        · refine .inl fun z => ?_
          rw [z] at hc
          simp at hc
        · exact .inr (.inl hc)
        · exact .inr (.inr (of_decide_eq_true hc))
      rw [← e]
      exact q _ s2
    · have hc2 : ¬ (xs.length ≠ ys.length ∨ (xs.any fun n => decide (n < 1)) = true ∨ lg (ws ++ xs) ≤ m) := by
        rw [Bool.or_eq_false_iff, Bool.or_eq_false_iff] at hc
        rintro (z | z | z)
        · have := hc.1
          simp at this
          exact z (by omega)
        · rw [z] at hc
          exact Bool.noConfusion hc.2.1
        · exact of_decide_eq_false hc.2.2 z
      have e1 : duB ws m xs ys = duL m (srt ws) 0 0 ys := if_neg hc2
      wtm_at "w"
      refine v_sorted (sq_h (s2 _ _ ha)) fun od H5 n5 s5 d5 => ?_
      wtm_at "w"
      have sB := s2.trans s5
      have hk5 := sB.seq hk
      have nod : H od = none := s2.free n5
      refine v_forI hk5 (fun r σ' H' => ∃ (ord : List Int) (W ah : Int) (y : Option V), σ' = [some (.ref a), some (.int m), some (.ref l), some (.ref k), some (.ref od), some (.int W), some (.int ah), y, none] ∧ duL m ord W ah r = duB ws m xs ys ∧ Same H H' ∧ H' od = some (.lst (ord.map V.int)))
        ⟨srt ws, 0, 0, none, rfl, e1.symm, sB, d5⟩ (fun r σ' H' h => by obtain ⟨_, _, _, _, _, _, s, _⟩ := h; exact s.seq hk) ?_ ?_
      · rintro pre ms r σ' H6 _ ⟨ord, W, ah, y, rfl, hdu, s6, d6⟩
        have hdu2 : (if ¬ (ah < ms ∧ ms ≤ m) then false else if (eat ms ord W).1.head? = some ms ∨ (eat ms ord W).2 + ah ≠ ms - 1 then false else duL m (eat ms ord W).1 (eat ms ord W).2 (ah + ms) r) = duB ws m xs ys := hdu
        wtm_at "w"
        refine v_ch (d := decide (ms ≤ m)) (fun _ R hR => ?_) ?_
        · wtm_at "w"
          exact hR
        wtm_at "w"
        refine v_if (fun hcc => ?_) (fun hcc => ?_)
        · wtm_at "w"
          rw [if_pos] at hdu2
          · rw [hdu2]
            exact q _ s6
          · rintro ⟨z1, z2⟩
            rw [decide_eq_true z1, decide_eq_true z2] at hcc
            cases hcc
        · have hin : ah < ms ∧ ms ≤ m := by
            simp at hcc
            exact ⟨hcc.1, hcc.2⟩
          rw [if_neg (fun z => z hin)] at hdu2
          wtm_at "w"
          refine w_while (fun j σ' H2 => ∃ (ord2 : List Int) (W2 : Int), σ' = [some (.ref a), some (.int m), some (.ref l), some (.ref k), some (.ref od), some (.int W2), some (.int ah), some (.int ms), none] ∧ j = ord2.length ∧ eat ms ord2 W2 = eat ms ord W ∧ Same H H2 ∧ H2 od = some (.lst (ord2.map V.int))) _ ⟨ord, W, rfl, rfl, rfl, s6, d6⟩ ?_
          rintro j σ' H7 ⟨ord2, W2, rfl, rfl, he2, s7, d7⟩
          wtm_at "w"
          refine v_newL (n := 0) (by decide) fun q2 H8 n8 s8 h8 => ?_
          wtm_at "w"
          have d8 := s8 _ _ d7
          refine v_neL (ns := ord2) (ms := []) (sq_h d8) (sq_h h8) ?_
          wtm_at "w"
          refine v_and (d := decide (ord2.getD 0 0 < ms)) (fun hne R hR => ?_) (fun H9 s9 => ?_)
          · have hl0 : 0 < ord2.length := List.length_pos_iff.mpr fun z => by rw [z] at hne; simp at hne
            wtm_at "w"
            refine v_ixL (sq_h d8) (at_get (by omega) (by omega)) ?_
            wtm_at "w"
            exact hR _ (Same.refl _)
          · have d9 := s9 _ _ d8
            have sC := (s7.trans s8).trans s9
            refine v_if (fun hq => ?_) (fun hq => ?_)
            · cases ord2 with
              | nil => simp at hq
              | cons o rest =>
                have hlt : o < ms := by
                  simp at hq
                  exact hq
                refine v_turn ?_
                wtm_at "w"
                refine v_ty (sq_h d9) ?_
                wtm_at "w"
                refine v_pop0 (r := rest.map V.int) (y := .int o) d9 ?_
                wtm_at "w"
                exact ⟨rest.length, by rw [List.length_cons]; omega, rest, W2 + o, rfl, rfl, by rw [← he2]; exact (if_pos hlt).symm, same_mut sC nod, upd_same⟩
            · have hst : eat ms ord2 W2 = (ord2, W2) := by
                refine eat_stop fun o ho => ?_
                cases ord2 with
                | nil => cases ho
                | cons o2 rest =>
                  have ho' : o2 = o := Option.some.inj ho
                  rw [← ho']
                  intro z
                  simp at hq
                  omega
              rw [hst] at he2
              rw [← he2] at hdu2
              have hdu3 : (if ord2.head? = some ms ∨ W2 + ah ≠ ms - 1 then false else duL m ord2 W2 (ah + ms) r) = duB ws m xs ys := hdu2
              wtm_at "w"
              refine v_sliceT (sq_h d9) (by omega) fun q1 J1 n1 j1 h1 => ?_
              wtm_at "w"
              refine v_newL (n := 1) (by decide) fun q2 J2 n2 j2 h2 => ?_
              wtm_at "w"
              refine v_eqL (ms := [ms]) (sq_h (j2 _ _ h1)) (sq_h h2) ?_
              wtm_at "w"
              rw [show ((1 : Int)).toNat = 1 from rfl, take_one_head]
              have sD := (sC.trans j1).trans j2
              have dD := j2 _ _ (j1 _ _ d9)
              refine v_or (d := !decide (W2 + ah = ms - 1)) (fun _ R hR => ?_) (fun H9 s9 => ?_)
              · wtm_at "w"
                exact hR _ (Same.refl _)
              · refine v_if (fun hq2 => ?_) (fun hq2 => ?_)
                · wtm_at "w"
                  rw [if_pos] at hdu3
                  · rw [hdu3]
                    exact q _ (sD.trans s9)
                  · by_cases z2 : ord2.head? = some ms
                    · exact .inl z2
                    · by_cases z3 : W2 + ah = ms - 1
                      · rw [decide_eq_false z2, decide_eq_true z3] at hq2
                        cases hq2
                      · exact .inr z3
                · wtm_at "w"
                  rw [if_neg] at hdu3
                  · exact ⟨ord2, W2, ah + ms, some (.int ms), rfl, hdu3, sD.trans s9, s9 _ _ dD⟩
                  · rintro (z | z)
                    · rw [decide_eq_true z] at hq2
                      simp at hq2
                    · rw [decide_eq_false z] at hq2
                      simp at hq2
      · rintro σ' H' ⟨ord, W, ah, y, rfl, hdu, s6, d6⟩
        wtm_at "w"
        have e2 : true = duB ws m xs ys := by
          rw [← hdu]
          unfold duL
          rfl
        rw [e2]
        exact q _ s6
local macro_rules | `(tactic| wtm_at "w1") => `(tactic| first
  | (with_reducible refine w_lcZ ?_) | (with_reducible refine w_lcT ?_) | (with_reducible refine w_frz ?_) | (with_reducible refine w_forK ?_) | (with_reducible refine w_pcons ?_) | (with_reducible refine w_pnil ?_) | (with_reducible refine w_step ?_))
/-! ### the law's own words -/
theorem tyx_All (T : Tx K mg c) {o dx : Addr} {H : Hp} (ho : H o = some (.ins c.All dx [])) : TyX K H (.ref o) (.ref c.All) := .base (.ins ho T.c_All T.i_All T.dsp T.tks T.o_All)
theorem tyx_Gap (T : Tx K mg c) {o dx : Addr} {g : V} {H : Hp} (ho : H o = some (.ins c.Gap dx [("number", g)])) : TyX K H (.ref o) (.ref c.Gap) := .base (.ins ho T.c_Gap T.i_Gap T.dsp T.tks T.o_Gap)
def sp_law_says (K : PySem.W.Frag) (_ : Ca) : Sp := fun vs H Q _ => ∃ x y : Bool, vs = [.bl x, .bl y] ∧ Ret (.bl (x == y)) H Q
theorem c_law_says {x y : Bool} {H : Hp} {Q : VK} {E : XK} (k : ∀ H2, Same H H2 → Q (.bl (x == y)) H2) : sp_law_says K c [.bl x, .bl y] H Q E := ⟨x, y, rfl, k⟩
theorem ok_law_says {f : Addr} {fd : FuncData} (A : At K mg "_law_says" sLawSays ["_law_said", "_law_due_here"] f fd) (T : Tx K mg c) : FnAt P w K mg base CX0 1 "_law_says" ["_law_said", "_law_due_here"] (sp_law_says K c) f fd := by
  refine ⟨A.g, A.F.kp, A.b, A.F.ok sc_sLawSays (fun vs H Q E h => ?_) (fun cdv Ar outer s H vs Q E hr h => ?_)⟩
  · obtain ⟨x, y, rfl, _⟩ := h
    rfl
  · obtain ⟨x, y, rfl, k⟩ := h
    refine ⟨(tRet (tAndV (tCB (rIsi K) (tCons (tVar 0) (tCons (tC (.ty "bool")) tNil))) (tOp rEq (tVar 0) (tVar 1)))), (pss_one (ps_ret (pe_and (pe_callB call_isi (by rfl) T.z_isinstance bt_isinstance (pa_cons (pv 0) (pa_cons (pe_bltn (v := .ty "bool") (by rfl) T.z_bool bt_bool rfl) pa_nil))) (pe_one (pe_cmpR op_eq (pv 0) (pv 1) (nomark _)))))), ?_⟩
    refine w_start (σ := [some _, some _]) rfl ?_
    wtm_at "w"
    refine v_isBool trivial ?_
    wtm_at "w"
    refine v_andV (d := x == y) (fun _ q hq => ?_) (fun J j => ?_)
    · wtm_at "w"
      exact hq _ (Same.refl _)
    · exact k _ j
/-! ### bent lists -/
def sp_law_bent (K : PySem.W.Frag) (_ : Ca) : Sp := fun vs H Q _ => ∃ (a : Addr) (ns : List Int) (x : Int), vs = [.ref a, .int x] ∧ SqL K H a (ns.map V.int) ∧ ns.length ≤ 1000000 ∧ ∀ us : List Int, us.length ≤ ns.length + 1 → RetL us H Q
theorem c_law_bent {a : Addr} {ns : List Int} {x : Int} {H : Hp} {Q : VK} {E : XK} (h : SqL K H a (ns.map V.int)) (hz : ns.length ≤ 1000000) (k : ∀ (us : List Int) (p : Addr) (H2 : Hp), us.length ≤ ns.length + 1 → H p = none → Same H H2 → H2 p = some (.lst (us.map V.int)) → Q (.ref p) H2) : sp_law_bent K c [.ref a, .int x] H Q E :=
  ⟨a, ns, x, rfl, h, hz, fun us hu p H2 h1 h2 h3 => k us p H2 hu h1 h2 h3⟩
theorem ok_law_bent {f : Addr} {fd : FuncData} (A : At K mg "_law_bent" sLawBent ["_law_some", "_law_cell"] f fd) (T : Tx K mg c) : FnAt P w K mg base CX0 1 "_law_bent" ["_law_some", "_law_cell"] (sp_law_bent K c) f fd := by
  refine ⟨A.g, A.F.kp, A.b, A.F.ok sc_sLawBent (fun vs H Q E h => ?_) (fun cdv Ar outer s H vs Q E hr h => ?_)⟩
  · obtain ⟨a, ns, x, rfl, _⟩ := h
    rfl
  · obtain ⟨a, ns, x, rfl, hS, hz, k⟩ := h
    refine ⟨(tSeq (tAsg (tOp (rI (fun _ j => 0 < j) fun i j => .int (i % j)) (tVar 1) (tC (.int 8))) (gName 2))
  (tSeq (tAsg (tOp (rI (fun _ j => 0 < j) fun i j => .int (i % j)) (tOp (rI CDiv fun i j => .int (i / j)) (tVar 1) (tC (.int 8))) (tOp (rI0 fun i j => .int (i + j)) (tCB (rLen K) (tCons (tVar 0) tNil)) (tC (.int 1)))) (gName 3))
  (tSeq (tIfS (tTest (tOp (rIn K false) (tVar 2) (tLst (tCons (tC (.int 1)) (tCons (tC (.int 2)) tNil))))) (tRet (tOp rCat (tOp rCat (tSl (rSlL K) (tVar 0) tNoPart (tPart (tVar 3))) (tLc (iList K (tSl (rSlL K) (tVar 0) (tPart (tVar 3)) (tPart (tOp (rI0 fun i j => .int (i + j)) (tVar 3) (tC (.int 1)))))) (gName 4) tYes (tOp (rI0 fun i j => .int (i + j)) (tVar 4) (tOp (rIxT K) (tTup (tCons (tC (.int 1)) (tCons (tUn (rU fun i => .int (-i)) (tC (.int 1))) tNil))) (tOp (rI0 fun i j => .int (i - j)) (tVar 2) (tC (.int 1))))) [4])) (tSl (rSlL K) (tVar 0) (tPart (tOp (rI0 fun i j => .int (i + j)) (tVar 3) (tC (.int 1)))) tNoPart))) tNext)
  (tSeq (tIfS (tTest (tOp rEq (tVar 2) (tC (.int 3)))) (tRet (tOp rCat (tSl (rSlL K) (tVar 0) tNoPart (tPart (tVar 3))) (tSl (rSlL K) (tVar 0) (tPart (tOp (rI0 fun i j => .int (i + j)) (tVar 3) (tC (.int 1)))) tNoPart))) tNext)
  (tSeq (tIfS (tTest (tOp rEq (tVar 2) (tC (.int 4)))) (tRet (tOp rCat (tOp rCat (tSl (rSlL K) (tVar 0) tNoPart (tPart (tVar 3))) (tSl (rSlL K) (tVar 0) (tPart (tVar 3)) (tPart (tOp (rI0 fun i j => .int (i + j)) (tVar 3) (tC (.int 1)))))) (tSl (rSlL K) (tVar 0) (tPart (tVar 3)) tNoPart))) tNext)
  (tSeq (tIfS (tTest (tOp rEq (tVar 2) (tC (.int 5)))) (tRet (tOp rCat (tOp rCat (tSl (rSlL K) (tVar 0) tNoPart (tPart (tVar 3))) (tLc (iList K (tSl (rSlL K) (tVar 0) (tPart (tVar 3)) (tPart (tOp (rI0 fun i j => .int (i + j)) (tVar 3) (tC (.int 1)))))) (gName 4) tYes (tUn (rU fun i => .int (-i)) (tVar 4)) [4])) (tSl (rSlL K) (tVar 0) (tPart (tOp (rI0 fun i j => .int (i + j)) (tVar 3) (tC (.int 1)))) tNoPart))) tNext)
  (tSeq (tIfS (tTest (tOp rEq (tVar 2) (tC (.int 6)))) (tRet (tOp rCat (tOp rCat (tSl (rSlL K) (tVar 0) tNoPart (tPart (tVar 3))) (tLst (tCons (tOp (rI (fun _ j => 0 < j) fun i j => .int (i % j)) (tOp (rI CDiv fun i j => .int (i / j)) (tVar 1) (tC (.int 64))) (tC (.int 20))) tNil))) (tSl (rSlL K) (tVar 0) (tPart (tVar 3)) tNoPart))) tNext)
  (tRet (tIf (tTest (tOp rEq (tVar 2) (tC (.int 7)))) (tRevL K (tVar 0)) (tCB (rListOf K) (tCons (tVar 0) tNil))))))))))), (pss_cons (ps_set (i := 2) sc_sLawBent.nd rfl (Or.inr rfl) (pe_op op_mod (pv 1) pe_int))
  (pss_cons (ps_set (i := 3) sc_sLawBent.nd rfl (Or.inl rfl) (pe_op op_mod (pe_op op_fdiv (pv 1) pe_int) (pe_op op_add (pe_callB call_lenK (by rfl) T.z_len bt_len (pa_cons (pv 0) pa_nil)) pe_int)))
  (pss_cons (ps_if (pt_cmpR op_in_seq (pv 2) (pe_lst (pa_cons pe_int (pa_cons pe_int pa_nil))) (by rfl)) (pss_one (ps_ret (pe_op op_cat (pe_op op_cat (pe_slice sl_list (pv 0) po_none (po_some (pv 3))) (pe_lc (own := [("_law_one", 4)]) (g := gName 4) (tt := tYes) (te := (tOp (rI0 fun i j => .int (i + j)) (tVar 4) (tOp (rIxT K) (tTup (tCons (tC (.int 1)) (tCons (tUn (rU fun i => .int (-i)) (tC (.int 1))) tNil))) (tOp (rI0 fun i j => .int (i - j)) (tVar 2) (tC (.int 1)))))) rfl sc_sLawBent.nd (pi_list (pe_slice sl_list (pv 0) (po_some (pv 3)) (po_some (pe_op op_add (pv 3) pe_int)))) (blkOk_by (N := ["_law_some", "_law_cell", "_law_kind", "_law_at", "_law_one"]) (sc := defScope sLawBent) (by decide +kernel)) (fun _ _ _ _ _ => (pg_name (i := 4) sc_sLawBent.nd rfl (Or.inl rfl))) (fun _ _ _ _ _ => pts_nil) (fun _ _ _ _ _ => (pe_op op_add (pv 4) (pe_ix ix_tup (pe_tup (pa_cons pe_int (pa_cons (pe_un un_neg pe_int) pa_nil))) (pe_op op_sub (pv 2) pe_int) (fun _ _ => rfl)))))) (pe_slice sl_list (pv 0) (po_some (pe_op op_add (pv 3) pe_int)) po_none)))) pss_nil)
  (pss_cons (ps_if (pt_cmpR op_eq (pv 2) pe_int (nomark _)) (pss_one (ps_ret (pe_op op_cat (pe_slice sl_list (pv 0) po_none (po_some (pv 3))) (pe_slice sl_list (pv 0) (po_some (pe_op op_add (pv 3) pe_int)) po_none)))) pss_nil)
  (pss_cons (ps_if (pt_cmpR op_eq (pv 2) pe_int (nomark _)) (pss_one (ps_ret (pe_op op_cat (pe_op op_cat (pe_slice sl_list (pv 0) po_none (po_some (pv 3))) (pe_slice sl_list (pv 0) (po_some (pv 3)) (po_some (pe_op op_add (pv 3) pe_int)))) (pe_slice sl_list (pv 0) (po_some (pv 3)) po_none)))) pss_nil)
  (pss_cons (ps_if (pt_cmpR op_eq (pv 2) pe_int (nomark _)) (pss_one (ps_ret (pe_op op_cat (pe_op op_cat (pe_slice sl_list (pv 0) po_none (po_some (pv 3))) (pe_lc (own := [("_law_one", 4)]) (g := gName 4) (tt := tYes) (te := (tUn (rU fun i => .int (-i)) (tVar 4))) rfl sc_sLawBent.nd (pi_list (pe_slice sl_list (pv 0) (po_some (pv 3)) (po_some (pe_op op_add (pv 3) pe_int)))) (blkOk_by (N := ["_law_some", "_law_cell", "_law_kind", "_law_at", "_law_one"]) (sc := defScope sLawBent) (by decide +kernel)) (fun _ _ _ _ _ => (pg_name (i := 4) sc_sLawBent.nd rfl (Or.inl rfl))) (fun _ _ _ _ _ => pts_nil) (fun _ _ _ _ _ => (pe_un un_neg (pv 4))))) (pe_slice sl_list (pv 0) (po_some (pe_op op_add (pv 3) pe_int)) po_none)))) pss_nil)
  (pss_cons (ps_if (pt_cmpR op_eq (pv 2) pe_int (nomark _)) (pss_one (ps_ret (pe_op op_cat (pe_op op_cat (pe_slice sl_list (pv 0) po_none (po_some (pv 3))) (pe_lst (pa_cons (pe_op op_mod (pe_op op_fdiv (pv 1) pe_int) pe_int) pa_nil))) (pe_slice sl_list (pv 0) (po_some (pv 3)) po_none)))) pss_nil)
  (pss_one (ps_ret (pe_ifExp (pt_cmpR op_eq (pv 2) pe_int (nomark _)) (pe_revL (pv 0)) (pe_callTy call_listK (by rfl) T.z_list bt_list (pa_cons (pv 0) pa_nil)))))))))))), ?_⟩
    refine w_start (σ := [some _, some _, none, none, none]) rfl ?_
    wtm_at "w"
    have hn : (0 : Int) < (ns.length : Int) + 1 := by omega
    have m1 := Int.emod_nonneg (x / 8) (show (ns.length : Int) + 1 ≠ 0 by omega)
    have m2 := Int.emod_lt_of_pos (x / 8) hn
    generalize x / 8 % ((ns.length : Int) + 1) = at_ at m1 m2
    have mk0 := Int.emod_nonneg x (show (8 : Int) ≠ 0 by decide)
    have mk1 := Int.emod_lt_of_pos x (show (0 : Int) < 8 by decide)
    generalize x % 8 = kd at mk0 mk1
    refine v_newL (n := 2) (by decide) fun q1 H1 n1 s1 d1 => ?_
    refine v_in (ns := [1, 2]) (sq_h d1) ?_
    have hS1 := s1.seq hS
    wtm_at "w"
    refine v_if (fun hc => ?_) (fun hc => ?_)
    · have hk : kd = 1 ∨ kd = 2 := by simpa using of_decide_eq_true hc
      wtm_at "w"
      refine v_sliceT hS1 m1 fun p2 H2 n2 s2 d2 => ?_
      wtm_at "w"
      refine v_sliceM (s2.seq hS1) m1 (by omega) fun p3 H3 n3 s3 d3 => ?_
      wtm_at "w"
      refine v_lcI (σ2 := fun y => [some (.ref a), some (.int x), some (.int kd), some (.int at_), some (.int y)]) (fun _ => true) (fun y => .int (y + (if kd = 1 then 1 else -1))) (sq_h d3) (by simp only [List.length_take, List.length_drop]; omega) (fun _ => rfl) (fun _ _ => rfl) (fun n H' _ _ R h => t_yes h) (fun y H' _ _ s R h => ?_) (fun p4 H4 n4 s4 d4 => ?_)
      · wtm_at "w"
        refine v_newL (n := 2) (by decide) fun t5 H5 n5 s5 d5 => ?_
        wtm_at "w"
        rcases hk with rfl | rfl
        · refine v_ixT (st_h d5) (v := .int 1) (atI_nat (j := 0) rfl) ?_
          wtm_at "w"
          exact h _ s5
        · refine v_ixT (st_h d5) (v := .int (-1)) (atI_nat (j := 1) rfl) ?_
          wtm_at "w"
          exact h _ s5
      rw [filter_yes, map_int] at d4
      wtm_at "w"
      refine v_cat (s4 _ _ (s3 _ _ d2)) d4 (by simp only [List.length_map, List.length_take, List.length_drop]; omega) fun p5 H5 n5 s5 d5 => ?_
      wtm_at "w"
      have sA := ((s2.trans s3).trans s4).trans s5
      refine v_sliceF (sA.seq hS1) (by omega) fun p6 H6 n6 s6 d6 => ?_
      wtm_at "w"
      refine v_cat (s6 _ _ d5) d6 (by simp only [List.length_append, List.length_map, List.length_take, List.length_drop]; omega) fun p7 H7 n7 s7 d7 => ?_
      have sB := (s1.trans sA).trans s6
      exact k _ (by simp only [List.length_append, List.length_map, List.length_take, List.length_drop]; omega) p7 _ (sB.free n7) (sB.trans s7) d7
    · clear hc d1
      wtm_at "w"
      refine v_if (fun hc => ?_) (fun hc => ?_)
      · wtm_at "w"
        refine v_sliceT hS1 m1 fun p2 H2 n2 s2 d2 => ?_
        wtm_at "w"
        refine v_sliceF (s2.seq hS1) (by omega) fun p6 H6 n6 s6 d6 => ?_
        wtm_at "w"
        refine v_cat (s6 _ _ d2) d6 (by simp only [List.length_append, List.length_map, List.length_take, List.length_drop]; omega) fun p7 H7 n7 s7 d7 => ?_
        have sB := (s1.trans s2).trans s6
        exact k _ (by simp only [List.length_append, List.length_map, List.length_take, List.length_drop]; omega) p7 _ (sB.free n7) (sB.trans s7) d7
      wtm_at "w"
      refine v_if (fun hc => ?_) (fun hc => ?_)
      · wtm_at "w"
        refine v_sliceT hS1 m1 fun p2 H2 n2 s2 d2 => ?_
        wtm_at "w"
        refine v_sliceM (s2.seq hS1) m1 (by omega) fun p3 H3 n3 s3 d3 => ?_
        wtm_at "w"
        refine v_cat (s3 _ _ d2) d3 (by simp only [List.length_map, List.length_take, List.length_drop]; omega) fun p5 H5 n5 s5 d5 => ?_
        wtm_at "w"
        have sA := (s2.trans s3).trans s5
        refine v_sliceF (sA.seq hS1) (by omega) fun p6 H6 n6 s6 d6 => ?_
        wtm_at "w"
        refine v_cat (s6 _ _ d5) d6 (by simp only [List.length_append, List.length_map, List.length_take, List.length_drop]; omega) fun p7 H7 n7 s7 d7 => ?_
        have sB := (s1.trans sA).trans s6
        exact k _ (by simp only [List.length_append, List.length_map, List.length_take, List.length_drop]; omega) p7 _ (sB.free n7) (sB.trans s7) d7
      wtm_at "w"
      refine v_if (fun hc => ?_) (fun hc => ?_)
      · wtm_at "w"
        refine v_sliceT hS1 m1 fun p2 H2 n2 s2 d2 => ?_
        wtm_at "w"
        refine v_sliceM (s2.seq hS1) m1 (by omega) fun p3 H3 n3 s3 d3 => ?_
        wtm_at "w"
        refine v_lcI (σ2 := fun y => [some (.ref a), some (.int x), some (.int kd), some (.int at_), some (.int y)]) (fun _ => true) (fun y => .int (-y)) (sq_h d3) (by simp only [List.length_take, List.length_drop]; omega) (fun _ => rfl) (fun _ _ => rfl) (fun n H' _ _ R h => t_yes h) (fun y H' _ _ s R h => ?_) (fun p4 H4 n4 s4 d4 => ?_)
        · wtm_at "w"
          exact h _ (Same.refl _)
        rw [filter_yes, map_int] at d4
        wtm_at "w"
        refine v_cat (s4 _ _ (s3 _ _ d2)) d4 (by simp only [List.length_map, List.length_take, List.length_drop]; omega) fun p5 H5 n5 s5 d5 => ?_
        wtm_at "w"
        have sA := ((s2.trans s3).trans s4).trans s5
        refine v_sliceF (sA.seq hS1) (by omega) fun p6 H6 n6 s6 d6 => ?_
        wtm_at "w"
        refine v_cat (s6 _ _ d5) d6 (by simp only [List.length_append, List.length_map, List.length_take, List.length_drop]; omega) fun p7 H7 n7 s7 d7 => ?_
        have sB := (s1.trans sA).trans s6
        exact k _ (by simp only [List.length_append, List.length_map, List.length_take, List.length_drop]; omega) p7 _ (sB.free n7) (sB.trans s7) d7
      wtm_at "w"
      refine v_if (fun hc => ?_) (fun hc => ?_)
      · wtm_at "w"
        refine v_sliceT hS1 m1 fun p2 H2 n2 s2 d2 => ?_
        wtm_at "w"
        refine v_newL (n := 1) (by decide) fun p3 H3 n3 s3 d3 => ?_
        wtm_at "w"
        refine v_cat (ms := [x / 64 % 20]) (s3 _ _ d2) d3 (by simp only [List.length_take, List.length_cons, List.length_nil]; omega) fun p5 H5 n5 s5 d5 => ?_
        wtm_at "w"
        have sA := (s2.trans s3).trans s5
        refine v_sliceF (sA.seq hS1) (by omega) fun p6 H6 n6 s6 d6 => ?_
        wtm_at "w"
        refine v_cat (s6 _ _ d5) d6 (by simp only [List.length_append, List.length_take, List.length_drop, List.length_cons, List.length_nil]; omega) fun p7 H7 n7 s7 d7 => ?_
        have sB := (s1.trans sA).trans s6
        exact k _ (by simp only [List.length_append, List.length_take, List.length_drop, List.length_cons, List.length_nil]; omega) p7 _ (sB.free n7) (sB.trans s7) d7
      wtm_at "w"
      refine v_if (fun hc => ?_) (fun hc => ?_)
      · wtm_at "w"
        refine v_rev hS1 fun p2 H2 n2 s2 d2 => ?_
        exact k _ (by rw [List.length_reverse]; omega) p2 _ (s1.free n2) (s1.trans s2) d2
      · wtm_at "w"
        refine v_list hS1 fun p2 H2 n2 s2 d2 => ?_
        exact k _ (by omega) p2 _ (s1.free n2) (s1.trans s2) d2
/-! ### an answer by hand, against the own look -/
def sp_law_best_right (K : PySem.W.Frag) (_ : Ca) : Sp := fun vs H Q _ => ∃ (a l k : Addr) (ws xs ys : List Int) (m : Int), vs = [.ref a, .int m, .ref l, .ref k] ∧ H a = some (.lst (ws.map V.int)) ∧ Pos ws ∧ H l = some (.lst (xs.map V.int)) ∧ H k = some (.lst (ys.map V.int)) ∧ ws.length ≤ 1000000 ∧ xs.length ≤ 1000000 ∧ ys.length ≤ 1000000 ∧ Ret (.bl true) H Q
theorem c_law_best_right {a l k : Addr} {ws xs ys : List Int} {m : Int} {H : Hp} {Q : VK} {E : XK} (h : H a = some (.lst (ws.map V.int))) (hp : Pos ws) (hl : H l = some (.lst (xs.map V.int))) (hk : H k = some (.lst (ys.map V.int))) (z1 : ws.length ≤ 1000000) (z2 : xs.length ≤ 1000000) (z3 : ys.length ≤ 1000000)
    (q : ∀ H2, Same H H2 → Q (.bl true) H2) : sp_law_best_right K c [.ref a, .int m, .ref l, .ref k] H Q E := ⟨a, l, k, ws, xs, ys, m, rfl, h, hp, hl, hk, z1, z2, z3, q⟩
theorem ok_law_best_right {f f0 f1 f2 f3 : Addr} {fd fd0 fd1 fd2 fd3 : FuncData} (A : At K mg "_law_best_right" sLawBestRight ["_law_weights", "_law_most", "_law_added", "_law_misses"] f fd) (T : Tx K mg c) (G_Best_init : InAt P w K mg base CX0 1 c.Best "Best" ["self", "added", "misses"] (sp_Best_init K c) f0 fd0) (M_Best_shows : MtAt P w K mg base CX0 2 c.Best "shows" ["self", "weights", "most"] (sp_Best_shows K c) f1 fd1) (G_law_due : FnAt P w K mg base CX0 2 "_law_due" ["_law_weights", "_law_most", "_law_added", "_law_misses"] (sp_law_due K c) f2 fd2) (G_law_says : FnAt P w K mg base CX0 1 "_law_says" ["_law_said", "_law_due_here"] (sp_law_says K c) f3 fd3) : FnAt P w K mg base CX0 3 "_law_best_right" ["_law_weights", "_law_most", "_law_added", "_law_misses"] (sp_law_best_right K c) f fd := by
  refine ⟨A.g, A.F.kp, A.b, A.F.ok sc_sLawBestRight (fun vs H Q E h => ?_) (fun cdv Ar outer s H vs Q E hr h => ?_)⟩
  · obtain ⟨a, l, k, ws, xs, ys, m, rfl, _⟩ := h
    rfl
  · obtain ⟨a, l, k, ws, xs, ys, m, rfl, ha, hp, hl, hk, z1, z2, z3, q⟩ := h
    have hcB := T.c_Best
    have hnA := T.n_Best_added
    have hnM := T.n_Best_misses
    refine ⟨(tSeq (tAsg (tLst (tCons (tCB (rListOf K) (tCons (tVar 2) tNil)) (tCons (tCB (rListOf K) (tCons (tVar 3) tNil)) tNil))) (gName 4))
  (tSeq (tAsg (tMake c.Best (sp_Best_init K c) [] E0 (tCons (tOp (rIxL K) (tVar 4) (tC (.int 0))) (tCons (tOp (rIxL K) (tVar 4) (tC (.int 1))) tNil))) (gName 5))
  (tSeq (tDrop (tBM K "list" rAppend (tOp (rIxL K) (tVar 4) (tC (.int 0))) (tCons (tC (.int 1)) tNil)))
  (tSeq (tDrop (tBM K "list" rAppend (tOp (rIxL K) (tVar 4) (tC (.int 1))) (tCons (tC (.int 1)) tNil)))
  (tSeq (tIfS (tOr (tTest (tOp (rNeD K) (tFld K (tVar 5) "added") (tVar 2))) (tTest (tOp (rNeD K) (tFld K (tVar 5) "misses") (tVar 3)))) (tRet (tC (.bl false))) tNext)
  (tRet (tCall (sp_law_says K c) [] E0 (tCons (tMeth c.Best "shows" (sp_Best_shows K c) [] E0 (tVar 5) (tCons (tVar 0) (tCons (tVar 1) tNil))) (tCons (tCall (sp_law_due K c) [] E0 (tCons (tVar 0) (tCons (tVar 1) (tCons (tVar 2) (tCons (tVar 3) tNil))))) tNil))))))))), (pss_cons (ps_set (i := 4) sc_sLawBestRight.nd rfl (Or.inl rfl) (pe_lst (pa_cons (pe_callTy call_listK (by rfl) T.z_list bt_list (pa_cons (pv 2) pa_nil)) (pa_cons (pe_callTy call_listK (by rfl) T.z_list bt_list (pa_cons (pv 3) pa_nil)) pa_nil))))
  (pss_cons (ps_set (i := 5) sc_sLawBestRight.nd rfl (Or.inl rfl) (pe_make G_Best_init.m G_Best_init.ok (hr.mono (by decide)) (by rfl) G_Best_init.g G_Best_init.b .nil pass0 (pa_cons (pe_ix ix_list (pv 4) pe_int (fun _ _ => rfl)) (pa_cons (pe_ix ix_list (pv 4) pe_int (fun _ _ => rfl)) pa_nil))))
  (pss_cons (ps_expr (pe_bm PySem.F.plainAttrs_list PySem.F.slot_list_append PySem.F.type_list_append mt_append (pe_ix ix_list (pv 4) pe_int (fun _ _ => rfl)) (pa_cons pe_int pa_nil)))
  (pss_cons (ps_expr (pe_bm PySem.F.plainAttrs_list PySem.F.slot_list_append PySem.F.type_list_append mt_append (pe_ix ix_list (pv 4) pe_int (fun _ _ => rfl)) (pa_cons pe_int pa_nil)))
  (pss_cons (ps_if (PW.pt (pw_or (pt_cmpR (op_neD hr.units) (pe_fld (pv 5) rfl) (pv 2) (nomark _)) (pw_or1 (pt_cmpR (op_neD hr.units) (pe_fld (pv 5) rfl) (pv 3) (nomark _))))) (pss_one (ps_ret pe_bl)) pss_nil)
  (pss_one (ps_ret (pe_call G_law_says.ok (hr.mono (by decide)) (by rfl) G_law_says.g G_law_says.kp G_law_says.b .nil pass0 (pa_cons (pe_meth (pv 5) T.c_Best M_Best_shows.me M_Best_shows.ok (hr.mono (by decide)) M_Best_shows.b .nil pass0 (pa_cons (pv 0) (pa_cons (pv 1) pa_nil))) (pa_cons (pe_call G_law_due.ok (hr.mono (by decide)) (by rfl) G_law_due.g G_law_due.kp G_law_due.b .nil pass0 (pa_cons (pv 0) (pa_cons (pv 1) (pa_cons (pv 2) (pa_cons (pv 3) pa_nil))))) pa_nil)))))))))), ?_⟩
    refine w_start (σ := [some _, some _, some _, some _, none, none]) rfl ?_
    wtm_at "w"
    refine v_list (sq_h hl) fun q1 H1 n1 s1 d1 => ?_
    wtm_at "w"
    refine v_list (sq_h (s1 _ _ hk)) fun q2 H2 n2 s2 d2 => ?_
    wtm_at "w"
    refine v_newL (n := 2) (by decide) fun q3 H3 n3 s3 d3 => ?_
    wtm_at "w"
    refine v_ixL (sq_h d3) (v := .ref q1) (atI_nat (j := 0) rfl) ?_
    wtm_at "w"
    refine v_ixL (sq_h d3) (v := .ref q2) (atI_nat (j := 1) rfl) ?_
    wtm_at "w"
    refine v_make fun o dx H4 n4 s4 d4 _ => ?_
    have f1 := s3 _ _ (s2 _ _ d1)
    have f2 := s3 _ _ d2
    refine c_Best_init (xs := xs) (ys := ys) d4 (sq_h (s4 _ _ f1)) (sq_h (s4 _ _ f2)) fun H5 l5 k5 hh e5 el ek nl nk ne5 => ⟨rfl, ?_⟩
    have hf1 := bestF_added l5 k5
    have hf2 := bestF_misses l5 k5
    have s35 : Same H3 H5 := fun x u e => hh x u (ne_of_none e n4) (s4 _ _ e)
    have s05 := ((s1.trans s2).trans s3).trans s35
    have n2' := s1.free n2
    have g1 := s35 _ _ f1
    have g2 := s35 _ _ f2
    have g3 := s35 _ _ d3
    have n12 : q1 ≠ q2 := ne_of_none d1 n2
    have n13 : q1 ≠ q3 := ne_of_none (s2 _ _ d1) n3
    have n23 : q2 ≠ q3 := ne_of_none d2 n3
    have n1o : q1 ≠ o := ne_of_none f1 n4
    have n2o : q2 ≠ o := ne_of_none f2 n4
    have n1l : q1 ≠ l5 := ne_of_none (s4 _ _ f1) nl
    have n2l : q2 ≠ l5 := ne_of_none (s4 _ _ f2) nl
    have n1k : q1 ≠ k5 := ne_of_none (s4 _ _ f1) nk
    have n2k : q2 ≠ k5 := ne_of_none (s4 _ _ f2) nk
    clear s35 hh f1 f2 d4 s4 s3 s2 s1 n3 n4 nl nk d1 d2 d3
    wtm_at "w"
    refine v_ixL (sq_h g3) (v := .ref q1) (atI_nat (j := 0) rfl) ?_
    refine v_ty (sq_h g1) ?_
    wtm_at "w"
    refine v_app g1 (by rw [List.length_map]; omega) ?_
    have g2' : upd H5 q1 (.lst (xs.map V.int ++ [.int 1])) q2 = some (.lst (ys.map V.int)) := by rw [upd_ne n12.symm]; exact g2
    have g3' : upd H5 q1 (.lst (xs.map V.int ++ [.int 1])) q3 = some (.lst [.ref q1, .ref q2]) := by rw [upd_ne n13.symm]; exact g3
    have e5' : upd H5 q1 (.lst (xs.map V.int ++ [.int 1])) o = some (.ins c.Best dx (bestF l5 k5)) := by rw [upd_ne n1o.symm]; exact e5
    have el' : upd H5 q1 (.lst (xs.map V.int ++ [.int 1])) l5 = some (.lst (xs.map V.int)) := by rw [upd_ne n1l.symm]; exact el
    have ek' : upd H5 q1 (.lst (xs.map V.int ++ [.int 1])) k5 = some (.lst (ys.map V.int)) := by rw [upd_ne n1k.symm]; exact ek
    have s06 := same_mut (o := .lst (xs.map V.int ++ [.int 1])) s05 n1
    generalize upd H5 q1 (.lst (xs.map V.int ++ [.int 1])) = H6 at *
    wtm_at "w"
    refine v_ixL (sq_h g3') (v := .ref q2) (atI_nat (j := 1) rfl) ?_
    refine v_ty (sq_h g2') ?_
    wtm_at "w"
    refine v_app g2' (by rw [List.length_map]; omega) ?_
    have e7 : upd H6 q2 (.lst (ys.map V.int ++ [.int 1])) o = some (.ins c.Best dx (bestF l5 k5)) := by rw [upd_ne n2o.symm]; exact e5'
    have el7 : upd H6 q2 (.lst (ys.map V.int ++ [.int 1])) l5 = some (.lst (xs.map V.int)) := by rw [upd_ne n2l.symm]; exact el'
    have ek7 : upd H6 q2 (.lst (ys.map V.int ++ [.int 1])) k5 = some (.lst (ys.map V.int)) := by rw [upd_ne n2k.symm]; exact ek'
    have s07 := same_mut (o := .lst (ys.map V.int ++ [.int 1])) s06 n2'
    generalize upd H6 q2 (.lst (ys.map V.int ++ [.int 1])) = H7 at *
    have a7 := s07 _ _ ha
    have l7 := s07 _ _ hl
    have k7 := s07 _ _ hk
    clear g1 g2 g3 e5 el ek g2' g3' e5' el' ek' s05 s06
    wtm_at "w"
    refine v_neL (sq_h el7) (sq_h l7) ?_
    wtm_at "w"
    refine v_iff (by simp) ?_
    wtm_at "w"
    refine v_neL (sq_h ek7) (sq_h k7) ?_
    wtm_at "w"
    refine v_iff (by simp) ?_
    wtm_at "w"
    refine v_meth e7 (bestF_shows l5 k5) ?_
    wtm_at "w"
    refine c_Best_shows e7 el7 (sq_h ek7) a7 (by omega) fun H8 s8 => ?_
    wtm_at "w"
    refine c_law_due (s8 _ _ a7) (s8 _ _ l7) (sq_h (s8 _ _ k7)) (by omega) fun H9 s9 => ?_
    wtm_at "w"
    refine c_law_says fun J j => ?_
    rw [shB_duB hp, beq_self_eq_true]
    exact q _ (((s07.trans s8).trans s9).trans j)
/-! ### by hand as on paper -/
theorem zip_rise : ∀ {l : List Int}, l.Pairwise (· < ·) → ((l.zip (l.drop 1)).map fun q => decide (q.2 ≤ q.1)).any id = false
  | [], _ => rfl
  | [_], _ => rfl
  | x :: y :: r, h => by
    obtain ⟨h1, h2⟩ := List.pairwise_cons.mp h
    have h3 := h1 y List.mem_cons_self
    have h4 := zip_rise h2
    show (decide (y ≤ x) || (((y :: r).zip ((y :: r).drop 1)).map fun q => decide (q.2 ≤ q.1)).any id) = false
    rw [h4, decide_eq_false (by omega)]
    rfl
def allPos (ws : List Int) : Bool := ws.all (fun w => decide (1 ≤ w)) && decide (ws.length ≤ 100)
theorem allPos.ok {ws : List Int} (h : allPos ws = true) : Pos ws ∧ ws.length ≤ 100 := by
  unfold allPos at h
  rw [Bool.and_eq_true, List.all_eq_true] at h
  exact ⟨fun w hw => of_decide_eq_true (h.1 w hw), of_decide_eq_true h.2⟩
def Case1 (H : Hp) (t : Addr) : Prop := ∃ (l : Addr) (ws : List Int) (g : Int), H t = some (.tup [.ref l, .int g]) ∧ H l = some (.lst (ws.map V.int)) ∧ (allPos ws && decide (fm ws = g)) = true
theorem Case1.same {H H' : Hp} {t : Addr} (e : Same H H') : Case1 H t → Case1 H' t := fun ⟨l, ws, g, h1, h2, h3⟩ => ⟨l, ws, g, e _ _ h1, e _ _ h2, h3⟩
def Case2 (H : Hp) (t : Addr) : Prop := ∃ (l : Addr) (ws : List Int) (n m : Int) (b : Bool), H t = some (.tup [.int n, .ref l, .int m, .bl b]) ∧ H l = some (.lst (ws.map V.int)) ∧ (allPos ws && (gapB ws m n == b)) = true
theorem Case2.same {H H' : Hp} {t : Addr} (e : Same H H') : Case2 H t → Case2 H' t := fun ⟨l, ws, n, m, b, h1, h2, h3⟩ => ⟨l, ws, n, m, b, e _ _ h1, e _ _ h2, h3⟩
def Case3 (H : Hp) (t : Addr) : Prop := ∃ (l k a : Addr) (xs ys ws : List Int) (m : Int) (b : Bool), H t = some (.tup [.ref l, .ref k, .ref a, .int m, .bl b]) ∧ H l = some (.lst (xs.map V.int)) ∧ H k = some (.lst (ys.map V.int)) ∧ H a = some (.lst (ws.map V.int)) ∧ (allPos ws && decide (xs.length ≤ 100) && decide (ys.length ≤ 100) && (shB ws m xs ys == b)) = true
theorem Case3.same {H H' : Hp} {t : Addr} (e : Same H H') : Case3 H t → Case3 H' t := fun ⟨l, k, a, xs, ys, ws, m, b, h1, h2, h3, h4, h5⟩ => ⟨l, k, a, xs, ys, ws, m, b, e _ _ h1, e _ _ h2, e _ _ h3, e _ _ h4, h5⟩
def sp_law_fewest_promises (K : PySem.W.Frag) (_ : Ca) : Sp := fun vs H Q _ => vs = [.int 1000000000000000000000000000000] ∧ Ret (.bl true) H Q
theorem c_law_fewest_promises {H : Hp} {Q : VK} {E : XK} (k : ∀ H2, Same H H2 → Q (.bl true) H2) : sp_law_fewest_promises K c [.int 1000000000000000000000000000000] H Q E := ⟨rfl, k⟩
theorem NN_30 : (1000000000000000000000000000000 : Int) < 2 ^ NN := by
  have : (2 : Nat) ^ 128 ≤ 2 ^ NN := Nat.pow_le_pow_right (by decide) (by decide)
  have h2 : ((2 ^ 128 : Nat) : Int) ≤ ((2 ^ NN : Nat) : Int) := Int.ofNat_le.mpr this
  have h3 : ((2 ^ NN : Nat) : Int) = 2 ^ NN := by exact_mod_cast rfl
  rw [h3] at h2
  exact Int.lt_of_lt_of_le (by decide) h2
theorem ok_law_fewest_promises {f f0 f1 f2 f3 : Addr} {fd fd0 fd1 fd2 fd3 : FuncData} (A : At K mg "_law_fewest_promises" sLawFewestPromises ["_law_great"] f fd) (T : Tx K mg c) (G_Best_init : InAt P w K mg base CX0 1 c.Best "Best" ["self", "added", "misses"] (sp_Best_init K c) f0 fd0) (M_Best_shows : MtAt P w K mg base CX0 2 c.Best "shows" ["self", "weights", "most"] (sp_Best_shows K c) f1 fd1) (G_told : FnAt P w K mg base CX0 3 "told" ["weights", "most"] (sp_told K c) f2 fd2) (G_fewest : FnAt P w K mg base CX0 3 "fewest" ["weights", "most"] (sp_fewest K c) f3 fd3) : FnAt P w K mg base CX0 4 "_law_fewest_promises" ["_law_great"] (sp_law_fewest_promises K c) f fd := by
  refine ⟨A.g, A.F.kp, A.b, A.F.ok sc_sLawFewestPromises (fun vs H Q E h => ?_) (fun cdv Ar outer s H vs Q E hr h => ?_)⟩
  · obtain ⟨rfl, _⟩ := h
    rfl
  · obtain ⟨rfl, k⟩ := h
    have hcB := T.c_Best
    have hnA := T.n_Best_added
    have hnM := T.n_Best_misses
    have hNN : NN = 10000 := rfl
    have h30 := NN_30
    refine ⟨(Evl.tCut (tIfS (tOr (tNot (tB (tCB (rIsi K) (tCons (tCall (sp_told K c) [] E0 (tCons (tLst tNil) (tCons (tC (.int 0)) tNil))) (tCons (tC (.ref c.All)) tNil))))) (tNot (tB (tCB (rIsi K) (tCons (tCall (sp_told K c) [] E0 (tCons (tLst tNil) (tCons (tC (.int 1)) tNil))) (tCons (tC (.ref c.Gap)) tNil)))))) (tRet (tC (.bl false))) tNext)
  (Evl.tCut (tIfS (tOr (tNot (tB (tCB (rIsi K) (tCons (tCall (sp_told K c) [] E0 (tCons (tLst (tCons (tC (.int 2)) (tCons (tC (.int 1)) tNil))) (tCons (tC (.int 3)) tNil))) (tCons (tC (.ref c.All)) tNil))))) (tNot (tB (tCB (rIsi K) (tCons (tCall (sp_told K c) [] E0 (tCons (tLst (tCons (tVar 0) tNil)) (tCons (tVar 0) tNil))) (tCons (tC (.ref c.Gap)) tNil)))))) (tRet (tC (.bl false))) tNext)
  (Evl.tCut (tAsg (tLst (tCons (tTup (tCons (tLst (tCons (tC (.int 1)) (tCons (tC (.int 2)) tNil))) (tCons (tLst (tCons (tC (.int 1)) (tCons (tC (.int 2)) tNil))) (tCons (tLst tNil) (tCons (tC (.int 3)) (tCons (tC (.bl true)) tNil)))))) (tCons (tTup (tCons (tLst (tCons (tC (.int 2)) (tCons (tC (.int 1)) tNil))) (tCons (tLst (tCons (tC (.int 1)) (tCons (tC (.int 2)) tNil))) (tCons (tLst tNil) (tCons (tC (.int 3)) (tCons (tC (.bl true)) tNil)))))) tNil))) (gName 1))
  (Evl.tCut (tAsg (tOp rCat (tVar 1) (tLst (tCons (tTup (tCons (tLst (tCons (tC (.int 1)) (tCons (tC (.int 1)) tNil))) (tCons (tLst (tCons (tC (.int 1)) (tCons (tC (.int 2)) tNil))) (tCons (tLst tNil) (tCons (tC (.int 3)) (tCons (tC (.bl false)) tNil)))))) (tCons (tTup (tCons (tLst (tCons (tC (.int 1)) (tCons (tC (.int 2)) tNil))) (tCons (tLst (tCons (tC (.int 2)) (tCons (tC (.int 1)) tNil))) (tCons (tLst tNil) (tCons (tC (.int 3)) (tCons (tC (.bl false)) tNil)))))) tNil)))) (gName 1))
  (Evl.tCut (tAsg (tOp rCat (tVar 1) (tLst (tCons (tTup (tCons (tLst (tCons (tC (.int 1)) (tCons (tC (.int 2)) (tCons (tC (.int 1)) tNil)))) (tCons (tLst (tCons (tC (.int 1)) (tCons (tC (.int 2)) tNil))) (tCons (tLst tNil) (tCons (tC (.int 3)) (tCons (tC (.bl false)) tNil)))))) (tCons (tTup (tCons (tLst (tCons (tC (.int 0)) (tCons (tC (.int 2)) tNil))) (tCons (tLst (tCons (tC (.int 1)) (tCons (tC (.int 2)) tNil))) (tCons (tLst tNil) (tCons (tC (.int 3)) (tCons (tC (.bl false)) tNil)))))) tNil)))) (gName 1))
  (Evl.tCut (tAsg (tOp rCat (tVar 1) (tLst (tCons (tTup (tCons (tLst tNil) (tCons (tLst tNil) (tCons (tLst (tCons (tC (.int 1)) (tCons (tC (.int 2)) tNil))) (tCons (tC (.int 3)) (tCons (tC (.bl true)) tNil)))))) (tCons (tTup (tCons (tLst tNil) (tCons (tLst tNil) (tCons (tLst tNil) (tCons (tC (.int 0)) (tCons (tC (.bl true)) tNil)))))) (tCons (tTup (tCons (tLst tNil) (tCons (tLst tNil) (tCons (tLst tNil) (tCons (tC (.int 1)) (tCons (tC (.bl false)) tNil)))))) tNil))))) (gName 1))
  (Evl.tCut (tAsg (tOp rCat (tVar 1) (tLst (tCons (tTup (tCons (tLst (tCons (tC (.int 4)) tNil)) (tCons (tLst (tCons (tC (.int 4)) tNil)) (tCons (tLst (tCons (tC (.int 1)) (tCons (tC (.int 2)) tNil))) (tCons (tC (.int 7)) (tCons (tC (.bl true)) tNil)))))) (tCons (tTup (tCons (tLst (tCons (tC (.int 3)) tNil)) (tCons (tLst (tCons (tC (.int 4)) tNil)) (tCons (tLst (tCons (tC (.int 1)) (tCons (tC (.int 2)) tNil))) (tCons (tC (.int 6)) (tCons (tC (.bl true)) tNil)))))) (tCons (tTup (tCons (tLst (tCons (tC (.int 3)) tNil)) (tCons (tLst (tCons (tC (.int 3)) tNil)) (tCons (tLst (tCons (tC (.int 1)) (tCons (tC (.int 2)) tNil))) (tCons (tC (.int 6)) (tCons (tC (.bl false)) tNil)))))) tNil))))) (gName 1))
  (Evl.tCut (tAsg (tOp rCat (tVar 1) (tLst (tCons (tTup (tCons (tLst (tCons (tC (.int 1)) tNil)) (tCons (tLst (tCons (tC (.int 2)) tNil)) (tCons (tLst (tCons (tC (.int 1)) tNil)) (tCons (tC (.int 2)) (tCons (tC (.bl true)) tNil)))))) (tCons (tTup (tCons (tLst (tCons (tC (.int 2)) tNil)) (tCons (tLst (tCons (tC (.int 2)) tNil)) (tCons (tLst (tCons (tC (.int 1)) tNil)) (tCons (tC (.int 3)) (tCons (tC (.bl true)) tNil)))))) (tCons (tTup (tCons (tLst (tCons (tC (.int 9)) tNil)) (tCons (tLst (tCons (tC (.int 1)) tNil)) (tCons (tLst tNil) (tCons (tC (.int 1)) (tCons (tC (.bl false)) tNil)))))) tNil))))) (gName 1))
  (Evl.tCut (tFor (iList K (tVar 1)) (gTup K 5 (gCons (gName 2) (gCons (gName 3) (gCons (gName 4) (gCons (gName 5) (gCons (gName 6) gNil)))))) (tIfS (tTest (tOp rNe (tMeth c.Best "shows" (sp_Best_shows K c) [] E0 (tMake c.Best (sp_Best_init K c) [] E0 (tCons (tVar 2) (tCons (tVar 3) tNil))) (tCons (tVar 4) (tCons (tVar 5) tNil))) (tVar 6))) (tRet (tC (.bl false))) tNext))
  (Evl.tCut (tIfS (tNot (tTest (tOp (rEqD K) (tLc (iTup K (tTup (tCons (tC (.int 0)) (tCons (tC (.int 1)) (tCons (tC (.int 3)) (tCons (tC (.int 7)) (tCons (tVar 0) tNil))))))) (gName 5) tYes (tCB (rLen K) (tCons (tFld K (tCall (sp_fewest K c) [] E0 (tCons (tLst tNil) (tCons (tVar 5) tNil))) "added") tNil)) [5]) (tLst (tCons (tC (.int 0)) (tCons (tC (.int 1)) (tCons (tC (.int 2)) (tCons (tC (.int 3)) (tCons (tC (.int 100)) tNil))))))))) (tRet (tC (.bl false))) tNext)
  (tRet (tOp (rEqD K) (tFld K (tCall (sp_fewest K c) [] E0 (tCons (tLst (tCons (tC (.int 1)) (tCons (tC (.int 2)) tNil))) (tCons (tC (.int 3)) tNil))) "misses") (tLst tNil))))))))))))), (Evl.pss_cut (ps_if (PW.pt (pw_or (pt_not (pt_val (pe_callB call_isi (by rfl) T.z_isinstance bt_isinstance (pa_cons (pe_call G_told.ok (hr.mono (by decide)) (by rfl) G_told.g G_told.kp G_told.b .nil pass0 (pa_cons (pe_lst pa_nil) (pa_cons pe_int pa_nil))) (pa_cons (pe_glob (v := .ref c.All) (by rfl) T.g_All rfl) pa_nil))))) (pw_or1 (pt_not (pt_val (pe_callB call_isi (by rfl) T.z_isinstance bt_isinstance (pa_cons (pe_call G_told.ok (hr.mono (by decide)) (by rfl) G_told.g G_told.kp G_told.b .nil pass0 (pa_cons (pe_lst pa_nil) (pa_cons pe_int pa_nil))) (pa_cons (pe_glob (v := .ref c.Gap) (by rfl) T.g_Gap rfl) pa_nil)))))))) (pss_one (ps_ret pe_bl)) pss_nil)
  (Evl.pss_cut (ps_if (PW.pt (pw_or (pt_not (pt_val (pe_callB call_isi (by rfl) T.z_isinstance bt_isinstance (pa_cons (pe_call G_told.ok (hr.mono (by decide)) (by rfl) G_told.g G_told.kp G_told.b .nil pass0 (pa_cons (pe_lst (pa_cons pe_int (pa_cons pe_int pa_nil))) (pa_cons pe_int pa_nil))) (pa_cons (pe_glob (v := .ref c.All) (by rfl) T.g_All rfl) pa_nil))))) (pw_or1 (pt_not (pt_val (pe_callB call_isi (by rfl) T.z_isinstance bt_isinstance (pa_cons (pe_call G_told.ok (hr.mono (by decide)) (by rfl) G_told.g G_told.kp G_told.b .nil pass0 (pa_cons (pe_lst (pa_cons (pv 0) pa_nil)) (pa_cons (pv 0) pa_nil))) (pa_cons (pe_glob (v := .ref c.Gap) (by rfl) T.g_Gap rfl) pa_nil)))))))) (pss_one (ps_ret pe_bl)) pss_nil)
  (Evl.pss_cut (ps_set (i := 1) sc_sLawFewestPromises.nd rfl (Or.inl rfl) (pe_lst (pa_cons (pe_tup (pa_cons (pe_lst (pa_cons pe_int (pa_cons pe_int pa_nil))) (pa_cons (pe_lst (pa_cons pe_int (pa_cons pe_int pa_nil))) (pa_cons (pe_lst pa_nil) (pa_cons pe_int (pa_cons pe_bl pa_nil)))))) (pa_cons (pe_tup (pa_cons (pe_lst (pa_cons pe_int (pa_cons pe_int pa_nil))) (pa_cons (pe_lst (pa_cons pe_int (pa_cons pe_int pa_nil))) (pa_cons (pe_lst pa_nil) (pa_cons pe_int (pa_cons pe_bl pa_nil)))))) pa_nil))))
  (Evl.pss_cut (ps_set (i := 1) sc_sLawFewestPromises.nd rfl (Or.inl rfl) (pe_op op_cat (pv 1) (pe_lst (pa_cons (pe_tup (pa_cons (pe_lst (pa_cons pe_int (pa_cons pe_int pa_nil))) (pa_cons (pe_lst (pa_cons pe_int (pa_cons pe_int pa_nil))) (pa_cons (pe_lst pa_nil) (pa_cons pe_int (pa_cons pe_bl pa_nil)))))) (pa_cons (pe_tup (pa_cons (pe_lst (pa_cons pe_int (pa_cons pe_int pa_nil))) (pa_cons (pe_lst (pa_cons pe_int (pa_cons pe_int pa_nil))) (pa_cons (pe_lst pa_nil) (pa_cons pe_int (pa_cons pe_bl pa_nil)))))) pa_nil)))))
  (Evl.pss_cut (ps_set (i := 1) sc_sLawFewestPromises.nd rfl (Or.inl rfl) (pe_op op_cat (pv 1) (pe_lst (pa_cons (pe_tup (pa_cons (pe_lst (pa_cons pe_int (pa_cons pe_int (pa_cons pe_int pa_nil)))) (pa_cons (pe_lst (pa_cons pe_int (pa_cons pe_int pa_nil))) (pa_cons (pe_lst pa_nil) (pa_cons pe_int (pa_cons pe_bl pa_nil)))))) (pa_cons (pe_tup (pa_cons (pe_lst (pa_cons pe_int (pa_cons pe_int pa_nil))) (pa_cons (pe_lst (pa_cons pe_int (pa_cons pe_int pa_nil))) (pa_cons (pe_lst pa_nil) (pa_cons pe_int (pa_cons pe_bl pa_nil)))))) pa_nil)))))
  (Evl.pss_cut (ps_set (i := 1) sc_sLawFewestPromises.nd rfl (Or.inl rfl) (pe_op op_cat (pv 1) (pe_lst (pa_cons (pe_tup (pa_cons (pe_lst pa_nil) (pa_cons (pe_lst pa_nil) (pa_cons (pe_lst (pa_cons pe_int (pa_cons pe_int pa_nil))) (pa_cons pe_int (pa_cons pe_bl pa_nil)))))) (pa_cons (pe_tup (pa_cons (pe_lst pa_nil) (pa_cons (pe_lst pa_nil) (pa_cons (pe_lst pa_nil) (pa_cons pe_int (pa_cons pe_bl pa_nil)))))) (pa_cons (pe_tup (pa_cons (pe_lst pa_nil) (pa_cons (pe_lst pa_nil) (pa_cons (pe_lst pa_nil) (pa_cons pe_int (pa_cons pe_bl pa_nil)))))) pa_nil))))))
  (Evl.pss_cut (ps_set (i := 1) sc_sLawFewestPromises.nd rfl (Or.inl rfl) (pe_op op_cat (pv 1) (pe_lst (pa_cons (pe_tup (pa_cons (pe_lst (pa_cons pe_int pa_nil)) (pa_cons (pe_lst (pa_cons pe_int pa_nil)) (pa_cons (pe_lst (pa_cons pe_int (pa_cons pe_int pa_nil))) (pa_cons pe_int (pa_cons pe_bl pa_nil)))))) (pa_cons (pe_tup (pa_cons (pe_lst (pa_cons pe_int pa_nil)) (pa_cons (pe_lst (pa_cons pe_int pa_nil)) (pa_cons (pe_lst (pa_cons pe_int (pa_cons pe_int pa_nil))) (pa_cons pe_int (pa_cons pe_bl pa_nil)))))) (pa_cons (pe_tup (pa_cons (pe_lst (pa_cons pe_int pa_nil)) (pa_cons (pe_lst (pa_cons pe_int pa_nil)) (pa_cons (pe_lst (pa_cons pe_int (pa_cons pe_int pa_nil))) (pa_cons pe_int (pa_cons pe_bl pa_nil)))))) pa_nil))))))
  (Evl.pss_cut (ps_set (i := 1) sc_sLawFewestPromises.nd rfl (Or.inl rfl) (pe_op op_cat (pv 1) (pe_lst (pa_cons (pe_tup (pa_cons (pe_lst (pa_cons pe_int pa_nil)) (pa_cons (pe_lst (pa_cons pe_int pa_nil)) (pa_cons (pe_lst (pa_cons pe_int pa_nil)) (pa_cons pe_int (pa_cons pe_bl pa_nil)))))) (pa_cons (pe_tup (pa_cons (pe_lst (pa_cons pe_int pa_nil)) (pa_cons (pe_lst (pa_cons pe_int pa_nil)) (pa_cons (pe_lst (pa_cons pe_int pa_nil)) (pa_cons pe_int (pa_cons pe_bl pa_nil)))))) (pa_cons (pe_tup (pa_cons (pe_lst (pa_cons pe_int pa_nil)) (pa_cons (pe_lst (pa_cons pe_int pa_nil)) (pa_cons (pe_lst pa_nil) (pa_cons pe_int (pa_cons pe_bl pa_nil)))))) pa_nil))))))
  (Evl.pss_cut (ps_for PassesOwn.never rfl (pi_list (pv 1)) (pg_tup rfl (pgs_cons (pg_name (i := 2) sc_sLawFewestPromises.nd rfl (Or.inl rfl)) (pgs_cons (pg_name (i := 3) sc_sLawFewestPromises.nd rfl (Or.inl rfl)) (pgs_cons (pg_name (i := 4) sc_sLawFewestPromises.nd rfl (Or.inl rfl)) (pgs_cons (pg_name (i := 5) sc_sLawFewestPromises.nd rfl (Or.inl rfl)) (pgs_cons (pg_name (i := 6) sc_sLawFewestPromises.nd rfl (Or.inl rfl)) pgs_nil)))))) (pss_one (ps_if (pt_cmpR op_ne (pe_meth (pe_make G_Best_init.m G_Best_init.ok (hr.mono (by decide)) (by rfl) G_Best_init.g G_Best_init.b .nil pass0 (pa_cons (pv 2) (pa_cons (pv 3) pa_nil))) T.c_Best M_Best_shows.me M_Best_shows.ok (hr.mono (by decide)) M_Best_shows.b .nil pass0 (pa_cons (pv 4) (pa_cons (pv 5) pa_nil))) (pv 6) (nomark _)) (pss_one (ps_ret pe_bl)) pss_nil)))
  (Evl.pss_cut (ps_if (pt_not (pt_cmpR (op_eqD hr.units) (pe_lc (own := [("_law_most", 5)]) (g := gName 5) (tt := tYes) (te := (tCB (rLen K) (tCons (tFld K (tCall (sp_fewest K c) [] E0 (tCons (tLst tNil) (tCons (tVar 5) tNil))) "added") tNil))) rfl sc_sLawFewestPromises.nd (pi_tup (pe_tup (pa_cons pe_int (pa_cons pe_int (pa_cons pe_int (pa_cons pe_int (pa_cons (pv 0) pa_nil))))))) (blkOk_by (N := ["_law_great", "_law_cases", "_law_added", "_law_misses", "_law_weights", "_law_most", "_law_due_here"]) (sc := defScope sLawFewestPromises) (by decide +kernel)) (fun _ _ _ _ _ => (pg_name (i := 5) sc_sLawFewestPromises.nd rfl (Or.inl rfl))) (fun _ _ _ _ _ => pts_nil) (fun _ _ _ _ _ => (pe_callB call_lenK (by rfl) T.z_len bt_len (pa_cons (pe_fld (pe_call G_fewest.ok (hr.mono (by decide)) (by rfl) G_fewest.g G_fewest.kp G_fewest.b .nil pass0 (pa_cons (pe_lst pa_nil) (pa_cons (pv 5) pa_nil))) rfl) pa_nil)))) (pe_lst (pa_cons pe_int (pa_cons pe_int (pa_cons pe_int (pa_cons pe_int (pa_cons pe_int pa_nil)))))) (nomark _))) (pss_one (ps_ret pe_bl)) pss_nil)
  (pss_one (ps_ret (pe_cmpR (op_eqD hr.units) (pe_fld (pe_call G_fewest.ok (hr.mono (by decide)) (by rfl) G_fewest.g G_fewest.kp G_fewest.b .nil pass0 (pa_cons (pe_lst (pa_cons pe_int (pa_cons pe_int pa_nil))) (pa_cons pe_int pa_nil))) rfl) (pe_lst pa_nil) (nomark _)))))))))))))), ?_⟩
    refine w_start (σ := [some _, none, none, none, none, none, none]) rfl ?_
    wtm_at "w"
    refine w_cut (fun σ' H' => σ' = [some (.int 1000000000000000000000000000000), none, none, none, none, none, none] ∧ Same H H') ?_ ?_
    · wtm_at "w"
      refine v_newL (n := 0) (by decide) fun l1 H1 n1 s1 d1 => ?_
      wtm_at "w"
      refine c_told (ns := []) (sq_h d1) Pos.nil (by decide) (by decide) (fun hlt o dx H2 hn s2 ho => ?_) (fun hlt => absurd (by decide : (0 : Int) < fm []) hlt)
      wtm_at "w"
      refine v_isi (.own _) (tyx_All T ho) T.k_All_All ?_
      wtm_at "w"
      refine v_iff rfl ?_
      wtm_at "w"
      refine v_newL (n := 0) (by decide) fun l3 H3 n3 s3 d3 => ?_
      wtm_at "w"
      refine c_told (ns := []) (sq_h d3) Pos.nil (by decide) (by decide) (fun hlt => absurd hlt (by decide)) (fun hlt o dx H4 hn s4 ho => ?_)
      wtm_at "w"
      refine v_isi (.own _) (tyx_Gap T ho) T.k_Gap_Gap ?_
      wtm_at "w"
      refine v_iff rfl ?_
      wtm_at "w"
      exact ⟨rfl, ((s1.trans s2).trans s3).trans s4⟩
    rintro σ' H5 ⟨rfl, sa⟩
    refine w_cut (fun σ' H' => σ' = [some (.int 1000000000000000000000000000000), none, none, none, none, none, none] ∧ Same H H') ?_ ?_
    · wtm_at "w"
      refine v_newL (n := 2) (by decide) fun l1 H1 n1 s1 d1 => ?_
      wtm_at "w"
      refine c_told (ns := [2, 1]) (sq_h d1) (fun x hx => by simp at hx; omega) (by decide) (by decide) (fun hlt o dx H2 hn s2 ho => ?_) (fun hlt => absurd (by decide : (3 : Int) < fm [2, 1]) hlt)
      wtm_at "w"
      refine v_isi (.own _) (tyx_All T ho) T.k_All_All ?_
      wtm_at "w"
      refine v_iff rfl ?_
      wtm_at "w"
      refine v_newL (n := 1) (by decide) fun l3 H3 n3 s3 d3 => ?_
      wtm_at "w"
      refine c_told (ns := [1000000000000000000000000000000]) (sq_h d3) (fun x hx => by simp at hx; omega) (by decide) (by decide) (fun hlt => absurd hlt (by decide)) (fun hlt o dx H4 hn s4 ho => ?_)
      wtm_at "w"
      refine v_isi (.own _) (tyx_Gap T ho) T.k_Gap_Gap ?_
      wtm_at "w"
      refine v_iff rfl ?_
      wtm_at "w"
      exact ⟨rfl, sa.trans (((s1.trans s2).trans s3).trans s4)⟩
    rintro σ' H6 ⟨rfl, sc⟩
    refine w_cut (fun σ' H' => ∃ (lc : Addr) (ts : List Addr), σ' = [some (.int 1000000000000000000000000000000), some (.ref lc), none, none, none, none, none] ∧ ts.length ≤ 4 ∧ H' lc = some (.lst (ts.map V.ref)) ∧ (∀ t ∈ ts, Case3 H' t) ∧ Same H H') ?_ ?_
    · wtm_at "w"
      refine v_newL (n := 2) (by decide) fun c0_0 G1 m1 t1 e1 => ?_
      wtm_at "w"
      refine v_newL (n := 2) (by decide) fun c0_1 G2 m2 t2 e2 => ?_
      wtm_at "w"
      refine v_newL (n := 0) (by decide) fun c0_2 G3 m3 t3 e3 => ?_
      wtm_at "w"
      refine v_newL (n := 5) (by decide) fun u0 G4 m4 t4 e4 => ?_
      wtm_at "w"
      refine v_newL (n := 2) (by decide) fun c1_0 G5 m5 t5 e5 => ?_
      wtm_at "w"
      refine v_newL (n := 2) (by decide) fun c1_1 G6 m6 t6 e6 => ?_
      wtm_at "w"
      refine v_newL (n := 0) (by decide) fun c1_2 G7 m7 t7 e7 => ?_
      wtm_at "w"
      refine v_newL (n := 5) (by decide) fun u1 G8 m8 t8 e8 => ?_
      wtm_at "w"
      refine v_newL (n := 2) (by decide) fun r G9 m9 t9 e9 => ?_
      have w0 : Case3 G9 u0 := ⟨c0_0, c0_1, c0_2, [1, 2], [1, 2], [], 3, true, by wtm_at "hp", by wtm_at "hp", by wtm_at "hp", by wtm_at "hp", by decide +kernel⟩
      have w1 : Case3 G9 u1 := ⟨c1_0, c1_1, c1_2, [2, 1], [1, 2], [], 3, true, by wtm_at "hp", by wtm_at "hp", by wtm_at "hp", by wtm_at "hp", by decide +kernel⟩
      have tz := ((((((((t1.trans t2).trans t3).trans t4).trans t5).trans t6).trans t7).trans t8).trans t9)
      clear m1 m2 m3 m4 m5 m6 m7 m8 m9
      clear t1 t2 t3 t4 t5 t6 t7 t8 t9
      wtm_at "w"
      refine ⟨r, [u0, u1], rfl, by simp, e9, fun t ht => ?_, sc.trans tz⟩
      simp only [List.mem_cons, List.not_mem_nil, or_false] at ht
      rcases ht with rfl | rfl <;> assumption
    rintro σ' H7 ⟨lc, ts, rfl, hts0, dc, hts, sc⟩
    refine w_cut (fun σ' H' => ∃ (lc : Addr) (ts : List Addr), σ' = [some (.int 1000000000000000000000000000000), some (.ref lc), none, none, none, none, none] ∧ ts.length ≤ 8 ∧ H' lc = some (.lst (ts.map V.ref)) ∧ (∀ t ∈ ts, Case3 H' t) ∧ Same H H') ?_ ?_
    · wtm_at "w"
      refine v_newL (n := 2) (by decide) fun c0_0 G1 m1 t1 e1 => ?_
      wtm_at "w"
      refine v_newL (n := 2) (by decide) fun c0_1 G2 m2 t2 e2 => ?_
      wtm_at "w"
      refine v_newL (n := 0) (by decide) fun c0_2 G3 m3 t3 e3 => ?_
      wtm_at "w"
      refine v_newL (n := 5) (by decide) fun u0 G4 m4 t4 e4 => ?_
      wtm_at "w"
      refine v_newL (n := 2) (by decide) fun c1_0 G5 m5 t5 e5 => ?_
      wtm_at "w"
      refine v_newL (n := 2) (by decide) fun c1_1 G6 m6 t6 e6 => ?_
      wtm_at "w"
      refine v_newL (n := 0) (by decide) fun c1_2 G7 m7 t7 e7 => ?_
      wtm_at "w"
      refine v_newL (n := 5) (by decide) fun u1 G8 m8 t8 e8 => ?_
      wtm_at "w"
      refine v_newL (n := 2) (by decide) fun r G9 m9 t9 e9 => ?_
      have w0 : Case3 G9 u0 := ⟨c0_0, c0_1, c0_2, [1, 1], [1, 2], [], 3, false, by wtm_at "hp", by wtm_at "hp", by wtm_at "hp", by wtm_at "hp", by decide +kernel⟩
      have w1 : Case3 G9 u1 := ⟨c1_0, c1_1, c1_2, [1, 2], [2, 1], [], 3, false, by wtm_at "hp", by wtm_at "hp", by wtm_at "hp", by wtm_at "hp", by decide +kernel⟩
      have tz := ((((((((t1.trans t2).trans t3).trans t4).trans t5).trans t6).trans t7).trans t8).trans t9)
      have dl := tz _ _ dc
      have hx : ∀ t ∈ ts, Case3 G9 t := fun t ht => (hts t ht).same tz
      clear m1 m2 m3 m4 m5 m6 m7 m8 m9
      clear t1 t2 t3 t4 t5 t6 t7 t8 t9
      wtm_at "w"
      refine v_catV (ys := ([u0, u1] : List Addr).map V.ref) dl e9 (by simp only [List.length_map, List.length_cons, List.length_nil]; omega) fun rr GG mm tt ee => ?_
      wtm_at "w"
      refine ⟨rr, ts ++ [u0, u1], rfl, by simp only [List.length_append, List.length_cons, List.length_nil]; omega, by rw [List.map_append]; exact ee, fun t ht => ?_, sc.trans (tz.trans tt)⟩
      refine Case3.same tt ?_
      rcases List.mem_append.mp ht with ht | ht
      · exact hx t ht
      · simp only [List.mem_cons, List.not_mem_nil, or_false] at ht
        rcases ht with rfl | rfl <;> assumption
    rintro σ' H8 ⟨lc, ts, rfl, hts0, dc, hts, sc⟩
    refine w_cut (fun σ' H' => ∃ (lc : Addr) (ts : List Addr), σ' = [some (.int 1000000000000000000000000000000), some (.ref lc), none, none, none, none, none] ∧ ts.length ≤ 12 ∧ H' lc = some (.lst (ts.map V.ref)) ∧ (∀ t ∈ ts, Case3 H' t) ∧ Same H H') ?_ ?_
    · wtm_at "w"
      refine v_newL (n := 3) (by decide) fun c0_0 G1 m1 t1 e1 => ?_
      wtm_at "w"
      refine v_newL (n := 2) (by decide) fun c0_1 G2 m2 t2 e2 => ?_
      wtm_at "w"
      refine v_newL (n := 0) (by decide) fun c0_2 G3 m3 t3 e3 => ?_
      wtm_at "w"
      refine v_newL (n := 5) (by decide) fun u0 G4 m4 t4 e4 => ?_
      wtm_at "w"
      refine v_newL (n := 2) (by decide) fun c1_0 G5 m5 t5 e5 => ?_
      wtm_at "w"
      refine v_newL (n := 2) (by decide) fun c1_1 G6 m6 t6 e6 => ?_
      wtm_at "w"
      refine v_newL (n := 0) (by decide) fun c1_2 G7 m7 t7 e7 => ?_
      wtm_at "w"
      refine v_newL (n := 5) (by decide) fun u1 G8 m8 t8 e8 => ?_
      wtm_at "w"
      refine v_newL (n := 2) (by decide) fun r G9 m9 t9 e9 => ?_
      have w0 : Case3 G9 u0 := ⟨c0_0, c0_1, c0_2, [1, 2, 1], [1, 2], [], 3, false, by wtm_at "hp", by wtm_at "hp", by wtm_at "hp", by wtm_at "hp", by decide +kernel⟩
      have w1 : Case3 G9 u1 := ⟨c1_0, c1_1, c1_2, [0, 2], [1, 2], [], 3, false, by wtm_at "hp", by wtm_at "hp", by wtm_at "hp", by wtm_at "hp", by decide +kernel⟩
      have tz := ((((((((t1.trans t2).trans t3).trans t4).trans t5).trans t6).trans t7).trans t8).trans t9)
      have dl := tz _ _ dc
      have hx : ∀ t ∈ ts, Case3 G9 t := fun t ht => (hts t ht).same tz
      clear m1 m2 m3 m4 m5 m6 m7 m8 m9
      clear t1 t2 t3 t4 t5 t6 t7 t8 t9
      wtm_at "w"
      refine v_catV (ys := ([u0, u1] : List Addr).map V.ref) dl e9 (by simp only [List.length_map, List.length_cons, List.length_nil]; omega) fun rr GG mm tt ee => ?_
      wtm_at "w"
      refine ⟨rr, ts ++ [u0, u1], rfl, by simp only [List.length_append, List.length_cons, List.length_nil]; omega, by rw [List.map_append]; exact ee, fun t ht => ?_, sc.trans (tz.trans tt)⟩
      refine Case3.same tt ?_
      rcases List.mem_append.mp ht with ht | ht
      · exact hx t ht
      · simp only [List.mem_cons, List.not_mem_nil, or_false] at ht
        rcases ht with rfl | rfl <;> assumption
    rintro σ' H9 ⟨lc, ts, rfl, hts0, dc, hts, sc⟩
    refine w_cut (fun σ' H' => ∃ (lc : Addr) (ts : List Addr), σ' = [some (.int 1000000000000000000000000000000), some (.ref lc), none, none, none, none, none] ∧ ts.length ≤ 16 ∧ H' lc = some (.lst (ts.map V.ref)) ∧ (∀ t ∈ ts, Case3 H' t) ∧ Same H H') ?_ ?_
    · wtm_at "w"
      refine v_newL (n := 0) (by decide) fun c0_0 G1 m1 t1 e1 => ?_
      wtm_at "w"
      refine v_newL (n := 0) (by decide) fun c0_1 G2 m2 t2 e2 => ?_
      wtm_at "w"
      refine v_newL (n := 2) (by decide) fun c0_2 G3 m3 t3 e3 => ?_
      wtm_at "w"
      refine v_newL (n := 5) (by decide) fun u0 G4 m4 t4 e4 => ?_
      wtm_at "w"
      refine v_newL (n := 0) (by decide) fun c1_0 G5 m5 t5 e5 => ?_
      wtm_at "w"
      refine v_newL (n := 0) (by decide) fun c1_1 G6 m6 t6 e6 => ?_
      wtm_at "w"
      refine v_newL (n := 0) (by decide) fun c1_2 G7 m7 t7 e7 => ?_
      wtm_at "w"
      refine v_newL (n := 5) (by decide) fun u1 G8 m8 t8 e8 => ?_
      wtm_at "w"
      refine v_newL (n := 0) (by decide) fun c2_0 G9 m9 t9 e9 => ?_
      wtm_at "w"
      refine v_newL (n := 0) (by decide) fun c2_1 G10 m10 t10 e10 => ?_
      wtm_at "w"
      refine v_newL (n := 0) (by decide) fun c2_2 G11 m11 t11 e11 => ?_
      wtm_at "w"
      refine v_newL (n := 5) (by decide) fun u2 G12 m12 t12 e12 => ?_
      wtm_at "w"
      refine v_newL (n := 3) (by decide) fun r G13 m13 t13 e13 => ?_
      have w0 : Case3 G13 u0 := ⟨c0_0, c0_1, c0_2, [], [], [1, 2], 3, true, by wtm_at "hp", by wtm_at "hp", by wtm_at "hp", by wtm_at "hp", by decide +kernel⟩
      have w1 : Case3 G13 u1 := ⟨c1_0, c1_1, c1_2, [], [], [], 0, true, by wtm_at "hp", by wtm_at "hp", by wtm_at "hp", by wtm_at "hp", by decide +kernel⟩
      have w2 : Case3 G13 u2 := ⟨c2_0, c2_1, c2_2, [], [], [], 1, false, by wtm_at "hp", by wtm_at "hp", by wtm_at "hp", by wtm_at "hp", by decide +kernel⟩
      have tz := ((((((((((((t1.trans t2).trans t3).trans t4).trans t5).trans t6).trans t7).trans t8).trans t9).trans t10).trans t11).trans t12).trans t13)
      have dl := tz _ _ dc
      have hx : ∀ t ∈ ts, Case3 G13 t := fun t ht => (hts t ht).same tz
      clear m1 m2 m3 m4 m5 m6 m7 m8 m9 m10 m11 m12 m13
      clear t1 t2 t3 t4 t5 t6 t7 t8 t9 t10 t11 t12 t13
      wtm_at "w"
      refine v_catV (ys := ([u0, u1, u2] : List Addr).map V.ref) dl e13 (by simp only [List.length_map, List.length_cons, List.length_nil]; omega) fun rr GG mm tt ee => ?_
      wtm_at "w"
      refine ⟨rr, ts ++ [u0, u1, u2], rfl, by simp only [List.length_append, List.length_cons, List.length_nil]; omega, by rw [List.map_append]; exact ee, fun t ht => ?_, sc.trans (tz.trans tt)⟩
      refine Case3.same tt ?_
      rcases List.mem_append.mp ht with ht | ht
      · exact hx t ht
      · simp only [List.mem_cons, List.not_mem_nil, or_false] at ht
        rcases ht with rfl | rfl | rfl <;> assumption
    rintro σ' H10 ⟨lc, ts, rfl, hts0, dc, hts, sc⟩
    refine w_cut (fun σ' H' => ∃ (lc : Addr) (ts : List Addr), σ' = [some (.int 1000000000000000000000000000000), some (.ref lc), none, none, none, none, none] ∧ ts.length ≤ 20 ∧ H' lc = some (.lst (ts.map V.ref)) ∧ (∀ t ∈ ts, Case3 H' t) ∧ Same H H') ?_ ?_
    · wtm_at "w"
      refine v_newL (n := 1) (by decide) fun c0_0 G1 m1 t1 e1 => ?_
      wtm_at "w"
      refine v_newL (n := 1) (by decide) fun c0_1 G2 m2 t2 e2 => ?_
      wtm_at "w"
      refine v_newL (n := 2) (by decide) fun c0_2 G3 m3 t3 e3 => ?_
      wtm_at "w"
      refine v_newL (n := 5) (by decide) fun u0 G4 m4 t4 e4 => ?_
      wtm_at "w"
      refine v_newL (n := 1) (by decide) fun c1_0 G5 m5 t5 e5 => ?_
      wtm_at "w"
      refine v_newL (n := 1) (by decide) fun c1_1 G6 m6 t6 e6 => ?_
      wtm_at "w"
      refine v_newL (n := 2) (by decide) fun c1_2 G7 m7 t7 e7 => ?_
      wtm_at "w"
      refine v_newL (n := 5) (by decide) fun u1 G8 m8 t8 e8 => ?_
      wtm_at "w"
      refine v_newL (n := 1) (by decide) fun c2_0 G9 m9 t9 e9 => ?_
      wtm_at "w"
      refine v_newL (n := 1) (by decide) fun c2_1 G10 m10 t10 e10 => ?_
      wtm_at "w"
      refine v_newL (n := 2) (by decide) fun c2_2 G11 m11 t11 e11 => ?_
      wtm_at "w"
      refine v_newL (n := 5) (by decide) fun u2 G12 m12 t12 e12 => ?_
      wtm_at "w"
      refine v_newL (n := 3) (by decide) fun r G13 m13 t13 e13 => ?_
      have w0 : Case3 G13 u0 := ⟨c0_0, c0_1, c0_2, [4], [4], [1, 2], 7, true, by wtm_at "hp", by wtm_at "hp", by wtm_at "hp", by wtm_at "hp", by decide +kernel⟩
      have w1 : Case3 G13 u1 := ⟨c1_0, c1_1, c1_2, [3], [4], [1, 2], 6, true, by wtm_at "hp", by wtm_at "hp", by wtm_at "hp", by wtm_at "hp", by decide +kernel⟩
      have w2 : Case3 G13 u2 := ⟨c2_0, c2_1, c2_2, [3], [3], [1, 2], 6, false, by wtm_at "hp", by wtm_at "hp", by wtm_at "hp", by wtm_at "hp", by decide +kernel⟩
      have tz := ((((((((((((t1.trans t2).trans t3).trans t4).trans t5).trans t6).trans t7).trans t8).trans t9).trans t10).trans t11).trans t12).trans t13)
      have dl := tz _ _ dc
      have hx : ∀ t ∈ ts, Case3 G13 t := fun t ht => (hts t ht).same tz
      clear m1 m2 m3 m4 m5 m6 m7 m8 m9 m10 m11 m12 m13
      clear t1 t2 t3 t4 t5 t6 t7 t8 t9 t10 t11 t12 t13
      wtm_at "w"
      refine v_catV (ys := ([u0, u1, u2] : List Addr).map V.ref) dl e13 (by simp only [List.length_map, List.length_cons, List.length_nil]; omega) fun rr GG mm tt ee => ?_
      wtm_at "w"
      refine ⟨rr, ts ++ [u0, u1, u2], rfl, by simp only [List.length_append, List.length_cons, List.length_nil]; omega, by rw [List.map_append]; exact ee, fun t ht => ?_, sc.trans (tz.trans tt)⟩
      refine Case3.same tt ?_
      rcases List.mem_append.mp ht with ht | ht
      · exact hx t ht
      · simp only [List.mem_cons, List.not_mem_nil, or_false] at ht
        rcases ht with rfl | rfl | rfl <;> assumption
    rintro σ' H11 ⟨lc, ts, rfl, hts0, dc, hts, sc⟩
    refine w_cut (fun σ' H' => ∃ (lc : Addr) (ts : List Addr), σ' = [some (.int 1000000000000000000000000000000), some (.ref lc), none, none, none, none, none] ∧ ts.length ≤ 24 ∧ H' lc = some (.lst (ts.map V.ref)) ∧ (∀ t ∈ ts, Case3 H' t) ∧ Same H H') ?_ ?_
    · wtm_at "w"
      refine v_newL (n := 1) (by decide) fun c0_0 G1 m1 t1 e1 => ?_
      wtm_at "w"
      refine v_newL (n := 1) (by decide) fun c0_1 G2 m2 t2 e2 => ?_
      wtm_at "w"
      refine v_newL (n := 1) (by decide) fun c0_2 G3 m3 t3 e3 => ?_
      wtm_at "w"
      refine v_newL (n := 5) (by decide) fun u0 G4 m4 t4 e4 => ?_
      wtm_at "w"
      refine v_newL (n := 1) (by decide) fun c1_0 G5 m5 t5 e5 => ?_
      wtm_at "w"
      refine v_newL (n := 1) (by decide) fun c1_1 G6 m6 t6 e6 => ?_
      wtm_at "w"
      refine v_newL (n := 1) (by decide) fun c1_2 G7 m7 t7 e7 => ?_
      wtm_at "w"
      refine v_newL (n := 5) (by decide) fun u1 G8 m8 t8 e8 => ?_
      wtm_at "w"
      refine v_newL (n := 1) (by decide) fun c2_0 G9 m9 t9 e9 => ?_
      wtm_at "w"
      refine v_newL (n := 1) (by decide) fun c2_1 G10 m10 t10 e10 => ?_
      wtm_at "w"
      refine v_newL (n := 0) (by decide) fun c2_2 G11 m11 t11 e11 => ?_
      wtm_at "w"
      refine v_newL (n := 5) (by decide) fun u2 G12 m12 t12 e12 => ?_
      wtm_at "w"
      refine v_newL (n := 3) (by decide) fun r G13 m13 t13 e13 => ?_
      have w0 : Case3 G13 u0 := ⟨c0_0, c0_1, c0_2, [1], [2], [1], 2, true, by wtm_at "hp", by wtm_at "hp", by wtm_at "hp", by wtm_at "hp", by decide +kernel⟩
      have w1 : Case3 G13 u1 := ⟨c1_0, c1_1, c1_2, [2], [2], [1], 3, true, by wtm_at "hp", by wtm_at "hp", by wtm_at "hp", by wtm_at "hp", by decide +kernel⟩
      have w2 : Case3 G13 u2 := ⟨c2_0, c2_1, c2_2, [9], [1], [], 1, false, by wtm_at "hp", by wtm_at "hp", by wtm_at "hp", by wtm_at "hp", by decide +kernel⟩
      have tz := ((((((((((((t1.trans t2).trans t3).trans t4).trans t5).trans t6).trans t7).trans t8).trans t9).trans t10).trans t11).trans t12).trans t13)
      have dl := tz _ _ dc
      have hx : ∀ t ∈ ts, Case3 G13 t := fun t ht => (hts t ht).same tz
      clear m1 m2 m3 m4 m5 m6 m7 m8 m9 m10 m11 m12 m13
      clear t1 t2 t3 t4 t5 t6 t7 t8 t9 t10 t11 t12 t13
      wtm_at "w"
      refine v_catV (ys := ([u0, u1, u2] : List Addr).map V.ref) dl e13 (by simp only [List.length_map, List.length_cons, List.length_nil]; omega) fun rr GG mm tt ee => ?_
      wtm_at "w"
      refine ⟨rr, ts ++ [u0, u1, u2], rfl, by simp only [List.length_append, List.length_cons, List.length_nil]; omega, by rw [List.map_append]; exact ee, fun t ht => ?_, sc.trans (tz.trans tt)⟩
      refine Case3.same tt ?_
      rcases List.mem_append.mp ht with ht | ht
      · exact hx t ht
      · simp only [List.mem_cons, List.not_mem_nil, or_false] at ht
        rcases ht with rfl | rfl | rfl <;> assumption
    rintro σ' H12 ⟨lc, ts, rfl, hts0, dc, hts, sc⟩
    refine w_cut (fun σ' H' => ∃ y1 y2 y3 y4 y5 y6 : Option V, σ' = [some (.int 1000000000000000000000000000000), y1, y2, y3, y4, y5, y6] ∧ Same H H') ?_ ?_
    · wtm_at "w"
      refine v_forG (emb := V.ref) (ns := ts) (sq_h dc) (fun r σ' H' => ∃ y2 y3 y4 y5 y6 : Option V, σ' = [some (.int 1000000000000000000000000000000), some (.ref lc), y2, y3, y4, y5, y6] ∧ Same H12 H')
        ⟨_, _, _, _, _, rfl, Same.refl _⟩ (fun r σ' H' h => by obtain ⟨_, _, _, _, _, _, s⟩ := h; exact s.seq (sq_h dc)) ?_ ?_
      · rintro pre t r σ' H' hmem ⟨y2, y3, y4, y5, y6, rfl, sE⟩
        have hm : t ∈ ts := by rw [hmem]; exact List.mem_append.mpr (.inr List.mem_cons_self)
        obtain ⟨l, k2, a, xs, ys, ws, m, b, ht, hl, hk, ha, hok⟩ := (hts t hm).same sE
        rw [Bool.and_eq_true, Bool.and_eq_true, Bool.and_eq_true, decide_eq_true_eq, decide_eq_true_eq] at hok
        obtain ⟨⟨⟨h1, h2⟩, h3⟩, h4⟩ := hok
        obtain ⟨hp, hz⟩ := allPos.ok h1
        refine g_t5 (st_h ht) ?_
        wtm_at "w"
        refine v_make fun o dx J1 m1 j1 e1 _ => ?_
        refine c_Best_init (xs := xs) (ys := ys) e1 (sq_h (j1 _ _ hl)) (sq_h (j1 _ _ hk)) fun J2 l5 k5 hh e5 el ek nl nk ne5 => ⟨rfl, ?_⟩
        have j2 : Same H' J2 := fun x u e => hh x u (ne_of_none e m1) (j1 _ _ e)
        wtm_at "w"
        refine v_meth e5 (bestF_shows l5 k5) ?_
        wtm_at "w"
        refine c_Best_shows e5 el (sq_h ek) (j2 _ _ ha) (by omega) fun J3 j3 => ?_
        wtm_at "w"
        refine v_iff (by rw [h4]; rfl) ?_
        wtm_at "w"
        exact ⟨_, _, _, _, _, rfl, sE.trans (j2.trans j3)⟩
      · rintro σ' H' ⟨y2, y3, y4, y5, y6, rfl, sE⟩
        wtm_at "w"
        exact ⟨_, _, _, _, _, _, rfl, sc.trans sE⟩
    rintro σ' H13 ⟨y1, y2, y3, y4, y5, y6, rfl, sd⟩
    refine w_cut (fun σ' H' => ∃ y1 y2 y3 y4 y5 y6 : Option V, σ' = [some (.int 1000000000000000000000000000000), y1, y2, y3, y4, y5, y6] ∧ Same H H') ?_ ?_
    · wtm_at "w"
      refine v_newL (n := 5) (by decide) fun t1 J1 m1 j1 e1 => ?_
      wtm_at "w"
      refine v_lcT (ns := [0, 1, 3, 7, 1000000000000000000000000000000]) (σ2 := fun x => [some (.int 1000000000000000000000000000000), y1, y2, y3, y4, some (.int x), y6]) (fun x => ((few [] x).length : Int)) (st_h e1) (by decide) (fun _ => rfl) (fun _ => rfl) (fun x H' hx s R h => ?_) (fun D J2 m2 j2 e2 => ?_)
      · have hx2 : 0 ≤ x ∧ x < 2 ^ NN := by
          simp only [List.mem_cons, List.not_mem_nil, or_false] at hx
          omega
        wtm_at "w"
        refine v_newL (n := 0) (by decide) fun q1 H1 n1 s1 d1 => ?_
        wtm_at "w"
        refine c_fewest (ws := []) (sq_h d1) Pos.nil (by decide) hx2.1 hx2.2 fun o dx l k2 H2 no nl nk ne s2 fo fl fk hfl => ?_
        have hf1 := bestF_added l k2
        wtm_at "w"
        exact h _ (s1.trans s2)
      wtm_at "w"
      refine v_newL (n := 5) (by decide) fun q2 J3 m3 j3 e3 => ?_
      wtm_at "w"
      refine v_eqL (ms := [0, 1, 2, 3, 100]) (sq_h (j3 _ _ e2)) (sq_h e3) ?_
      wtm_at "w"
      refine v_iff (by decide +kernel) ?_
      wtm_at "w"
      exact ⟨_, _, _, _, _, _, rfl, sd.trans ((j1.trans j2).trans j3)⟩
    rintro σ' H14 ⟨y1, y2, y3, y4, y5, y6, rfl, se⟩
    wtm_at "w"
    refine v_newL (n := 2) (by decide) fun q1 J1 m1 j1 e1 => ?_
    wtm_at "w"
    refine c_fewest (ws := [1, 2]) (m := 3) (sq_h e1) (fun x hx => by simp at hx; omega) (by decide) (by decide) (by omega) fun o dx l k2 J2 no nl nk ne j2 fo fl fk hfl => ?_
    have hf2 := bestF_misses l k2
    wtm_at "w"
    refine v_newL (n := 0) (by decide) fun q3 J3 m3 j3 e3 => ?_
    wtm_at "w"
    refine v_eqL (ms := []) (sq_h (j3 _ _ fk)) (sq_h e3) ?_
    rw [show decide (few [1, 2] 3 = []) = true by decide]
    exact k _ (se.trans ((j1.trans j2).trans j3))
def sp_law_promises_right (K : PySem.W.Frag) (_ : Ca) : Sp := fun vs H Q _ => vs = [] ∧ Ret (.bl true) H Q
theorem c_law_promises_right {H : Hp} {Q : VK} {E : XK} (k : ∀ H2, Same H H2 → Q (.bl true) H2) : sp_law_promises_right K c [] H Q E := ⟨rfl, k⟩
theorem ok_law_promises_right {f f0 f1 f2 f3 f4 f5 f6 : Addr} {fd fd0 fd1 fd2 fd3 fd4 fd5 fd6 : FuncData} (A : At K mg "_law_promises_right" sLawPromisesRight [] f fd) (T : Tx K mg c) (G_first_gap : FnAt P w K mg base CX0 3 "first_gap" ["weights"] (sp_first_gap K c) f0 fd0) (G_weighing : FnAt P w K mg base CX0 3 "weighing" ["weights", "number"] (sp_weighing K c) f1 fd1) (G_without : FnAt P w K mg base CX0 3 "without" ["weights", "place"] (sp_without K c) f2 fd2) (M_All_shows : MtAt P w K mg base CX0 2 c.All "shows" ["self", "weights", "most"] (sp_All_shows K c) f3 fd3) (G_Gap_init : InAt P w K mg base CX0 1 c.Gap "Gap" ["self", "number"] (sp_Gap_init K c) f4 fd4) (M_Gap_shows : MtAt P w K mg base CX0 2 c.Gap "shows" ["self", "weights", "most"] (sp_Gap_shows K c) f5 fd5) (G_law_fewest_promises : FnAt P w K mg base CX0 4 "_law_fewest_promises" ["_law_great"] (sp_law_fewest_promises K c) f6 fd6) (Z_All : Mk0 K mg c.All "All") : FnAt P w K mg base CX0 5 "_law_promises_right" [] (sp_law_promises_right K c) f fd := by
  refine ⟨A.g, A.F.kp, A.b, A.F.ok sc_sLawPromisesRight (fun vs H Q E h => ?_) (fun cdv Ar outer s H vs Q E hr h => ?_)⟩
  · obtain ⟨rfl, _⟩ := h
    rfl
  · obtain ⟨rfl, k⟩ := h
    have hcG := T.c_Gap
    have hnG := T.n_Gap_number
    refine ⟨(tSeq (tAsg (tOp (rI CPow fun i j => .int (i ^ j.toNat)) (tC (.int 10)) (tC (.int 30))) (gName 0))
  (Evl.tCut (tAsg (tLst (tCons (tTup (tCons (tLst tNil) (tCons (tC (.int 1)) tNil))) (tCons (tTup (tCons (tLst (tCons (tC (.int 1)) tNil)) (tCons (tC (.int 2)) tNil))) (tCons (tTup (tCons (tLst (tCons (tC (.int 2)) tNil)) (tCons (tC (.int 1)) tNil))) (tCons (tTup (tCons (tLst (tCons (tC (.int 4)) (tCons (tC (.int 1)) (tCons (tC (.int 2)) tNil)))) (tCons (tC (.int 8)) tNil))) (tCons (tTup (tCons (tLst (tCons (tC (.int 1)) (tCons (tC (.int 1)) (tCons (tC (.int 3)) tNil)))) (tCons (tC (.int 6)) tNil))) (tCons (tTup (tCons (tLst (tCons (tC (.int 1)) (tCons (tC (.int 2)) (tCons (tC (.int 5)) tNil)))) (tCons (tC (.int 4)) tNil))) tNil))))))) (gName 1))
  (Evl.tCut (tAsg (tOp rCat (tVar 1) (tLst (tCons (tTup (tCons (tLst (tCons (tVar 0) (tCons (tC (.int 1)) tNil))) (tCons (tC (.int 2)) tNil))) (tCons (tTup (tCons (tOp rRep (tLst (tCons (tC (.int 1)) tNil)) (tC (.int 40))) (tCons (tC (.int 41)) tNil))) (tCons (tTup (tCons (tLst (tCons (tC (.int 3)) (tCons (tC (.int 3)) (tCons (tC (.int 1)) (tCons (tC (.int 1)) tNil))))) (tCons (tC (.int 9)) tNil))) tNil))))) (gName 1))
  (Evl.tCut (tFor (iList K (tVar 1)) (gTup K 2 (gCons (gName 2) (gCons (gName 3) gNil))) (tSeq (tIfS (tOr (tTest (tOp rNe (tCall (sp_first_gap K c) [] E0 (tCons (tVar 2) tNil)) (tVar 3))) (tOr (tNot (tB (tMeth c.All "shows" (sp_All_shows K c) [] E0 (tMake00 c.All) (tCons (tVar 2) (tCons (tOp (rI0 fun i j => .int (i - j)) (tVar 3) (tC (.int 1))) tNil))))) (tB (tMeth c.All "shows" (sp_All_shows K c) [] E0 (tMake00 c.All) (tCons (tVar 2) (tCons (tVar 3) tNil)))))) (tRet (tC (.bl false))) tNext)
  (tFor (iKeys (tFrz (tDisp [((tC (.int 0)), (tC (.bl true))), ((tC (.int 1)), (tC (.bl true))), ((tOp (rI CDiv fun i j => .int (i / j)) (tVar 3) (tC (.int 2))), (tC (.bl true))), ((tOp (rI0 fun i j => .int (i - j)) (tVar 3) (tC (.int 1))), (tC (.bl true)))]))) (gName 4) (tIfS (tTest (tOp (rI0 fun i j => .bl (decide (i < j))) (tVar 4) (tVar 3))) (tSeq (tAsg (tCall (sp_weighing K c) [] E0 (tCons (tVar 2) (tCons (tVar 4) tNil))) (gName 5))
  (tSeq (tIfS (tTest (tOp rNe (tCB (rSum K) (tCons (tLc (iList K (tVar 5)) (gName 8) tYes (tOp (rIxL K) (tVar 2) (tVar 8)) [8]) tNil)) (tVar 4))) (tRet (tC (.bl false))) tNext)
  (tIfS (tB (tCB (rAny K) (tCons (tLc (iZip K (tCons (tVar 5) (tCons (tSl (rSlL K) (tVar 5) (tPart (tC (.int 1))) tNoPart) tNil))) (gTup K 2 (gCons (gName 9) (gCons (gName 10) gNil))) tYes (tOp (rI0 fun i j => .bl (decide (j ≤ i))) (tVar 9) (tVar 10)) [9, 10]) tNil))) (tRet (tC (.bl false))) tNext))) tNext))))
  (Evl.tCut (tIfS (tOr (tTest (tOp (rNeD K) (tCall (sp_weighing K c) [] E0 (tCons (tLst tNil) (tCons (tC (.int 0)) tNil))) (tLst tNil))) (tOr (tTest (tOp (rNeD K) (tCall (sp_weighing K c) [] E0 (tCons (tLst (tCons (tC (.int 4)) (tCons (tC (.int 1)) (tCons (tC (.int 2)) tNil)))) (tCons (tC (.int 7)) tNil))) (tLst (tCons (tC (.int 0)) (tCons (tC (.int 1)) (tCons (tC (.int 2)) tNil)))))) (tTest (tOp rNe (tCall (sp_without K c) [] E0 (tCons (tLst (tCons (tC (.int 1)) (tCons (tC (.int 1)) tNil))) (tCons (tC (.int 0)) tNil))) (tC (.int 2)))))) (tRet (tC (.bl false))) tNext)
  (Evl.tCut (tIfS (tOr (tTest (tOp rNe (tCall (sp_without K c) [] E0 (tCons (tLst (tCons (tC (.int 1)) tNil)) (tCons (tC (.int 0)) tNil))) (tC (.int 1)))) (tTest (tOp rNe (tCall (sp_without K c) [] E0 (tCons (tLst (tCons (tC (.int 4)) (tCons (tC (.int 1)) (tCons (tC (.int 2)) tNil)))) (tCons (tC (.int 1)) tNil))) (tC (.int 1))))) (tRet (tC (.bl false))) tNext)
  (Evl.tCut (tAsg (tLst (tCons (tTup (tCons (tC (.int 1)) (tCons (tLst tNil) (tCons (tC (.int 1)) (tCons (tC (.bl true)) tNil))))) (tCons (tTup (tCons (tC (.int 2)) (tCons (tLst tNil) (tCons (tC (.int 2)) (tCons (tC (.bl true)) tNil))))) (tCons (tTup (tCons (tC (.int 0)) (tCons (tLst (tCons (tC (.int 1)) (tCons (tC (.int 2)) tNil))) (tCons (tC (.int 5)) (tCons (tC (.bl false)) tNil))))) (tCons (tTup (tCons (tC (.int 3)) (tCons (tLst (tCons (tC (.int 1)) (tCons (tC (.int 2)) tNil))) (tCons (tC (.int 5)) (tCons (tC (.bl false)) tNil))))) tNil))))) (gName 1))
  (Evl.tCut (tAsg (tOp rCat (tVar 1) (tLst (tCons (tTup (tCons (tC (.int 4)) (tCons (tLst (tCons (tC (.int 1)) (tCons (tC (.int 2)) tNil))) (tCons (tC (.int 5)) (tCons (tC (.bl true)) tNil))))) (tCons (tTup (tCons (tC (.int 6)) (tCons (tLst (tCons (tC (.int 1)) (tCons (tC (.int 2)) tNil))) (tCons (tC (.int 5)) (tCons (tC (.bl false)) tNil))))) (tCons (tTup (tCons (tC (.int 4)) (tCons (tLst (tCons (tC (.int 1)) (tCons (tC (.int 2)) (tCons (tC (.int 4)) tNil)))) (tCons (tC (.int 7)) (tCons (tC (.bl false)) tNil))))) tNil))))) (gName 1))
  (Evl.tCut (tAsg (tOp rCat (tVar 1) (tLst (tCons (tTup (tCons (tC (.int 5)) (tCons (tLst (tCons (tC (.int 2)) (tCons (tC (.int 9)) (tCons (tC (.int 1)) tNil)))) (tCons (tC (.int 20)) (tCons (tC (.bl true)) tNil))))) (tCons (tTup (tCons (tC (.int 8)) (tCons (tLst (tCons (tC (.int 1)) (tCons (tC (.int 2)) (tCons (tC (.int 4)) tNil)))) (tCons (tC (.int 8)) (tCons (tC (.bl true)) tNil))))) (tCons (tTup (tCons (tUn (rU fun i => .int (-i)) (tC (.int 1))) (tCons (tLst tNil) (tCons (tC (.int 5)) (tCons (tC (.bl false)) tNil))))) tNil))))) (gName 1))
  (Evl.tCut (tFor (iList K (tVar 1)) (gTup K 4 (gCons (gName 4) (gCons (gName 2) (gCons (gName 6) (gCons (gName 7) gNil))))) (tIfS (tTest (tOp rNe (tMeth c.Gap "shows" (sp_Gap_shows K c) [] E0 (tMake c.Gap (sp_Gap_init K c) [] E0 (tCons (tVar 4) tNil)) (tCons (tVar 2) (tCons (tVar 6) tNil))) (tVar 7))) (tRet (tC (.bl false))) tNext))
  (tRet (tCall (sp_law_fewest_promises K c) [] E0 (tCons (tVar 0) tNil))))))))))))), (pss_cons (ps_set (i := 0) sc_sLawPromisesRight.nd rfl (Or.inl rfl) (pe_op op_pow pe_int pe_int))
  (Evl.pss_cut (ps_set (i := 1) sc_sLawPromisesRight.nd rfl (Or.inl rfl) (pe_lst (pa_cons (pe_tup (pa_cons (pe_lst pa_nil) (pa_cons pe_int pa_nil))) (pa_cons (pe_tup (pa_cons (pe_lst (pa_cons pe_int pa_nil)) (pa_cons pe_int pa_nil))) (pa_cons (pe_tup (pa_cons (pe_lst (pa_cons pe_int pa_nil)) (pa_cons pe_int pa_nil))) (pa_cons (pe_tup (pa_cons (pe_lst (pa_cons pe_int (pa_cons pe_int (pa_cons pe_int pa_nil)))) (pa_cons pe_int pa_nil))) (pa_cons (pe_tup (pa_cons (pe_lst (pa_cons pe_int (pa_cons pe_int (pa_cons pe_int pa_nil)))) (pa_cons pe_int pa_nil))) (pa_cons (pe_tup (pa_cons (pe_lst (pa_cons pe_int (pa_cons pe_int (pa_cons pe_int pa_nil)))) (pa_cons pe_int pa_nil))) pa_nil))))))))
  (Evl.pss_cut (ps_set (i := 1) sc_sLawPromisesRight.nd rfl (Or.inl rfl) (pe_op op_cat (pv 1) (pe_lst (pa_cons (pe_tup (pa_cons (pe_lst (pa_cons (pv 0) (pa_cons pe_int pa_nil))) (pa_cons pe_int pa_nil))) (pa_cons (pe_tup (pa_cons (pe_op op_rep (pe_lst (pa_cons pe_int pa_nil)) pe_int) (pa_cons pe_int pa_nil))) (pa_cons (pe_tup (pa_cons (pe_lst (pa_cons pe_int (pa_cons pe_int (pa_cons pe_int (pa_cons pe_int pa_nil))))) (pa_cons pe_int pa_nil))) pa_nil))))))
  (Evl.pss_cut (ps_for PassesOwn.never rfl (pi_list (pv 1)) (pg_tup rfl (pgs_cons (pg_name (i := 2) sc_sLawPromisesRight.nd rfl (Or.inr rfl)) (pgs_cons (pg_name (i := 3) sc_sLawPromisesRight.nd rfl (Or.inl rfl)) pgs_nil))) (pss_cons (ps_if (PW.pt (pw_or (pt_cmpR op_ne (pe_call G_first_gap.ok (hr.mono (by decide)) (by rfl) G_first_gap.g G_first_gap.kp G_first_gap.b .nil pass0 (pa_cons (pv 2) pa_nil)) (pv 3) (nomark _)) (pw_or (pt_not (pt_val (pe_meth (pe_make00 Z_All (by rfl)) T.c_All M_All_shows.me M_All_shows.ok (hr.mono (by decide)) M_All_shows.b .nil pass0 (pa_cons (pv 2) (pa_cons (pe_op op_sub (pv 3) pe_int) pa_nil))))) (pw_or1 (pt_val (pe_meth (pe_make00 Z_All (by rfl)) T.c_All M_All_shows.me M_All_shows.ok (hr.mono (by decide)) M_All_shows.b .nil pass0 (pa_cons (pv 2) (pa_cons (pv 3) pa_nil)))))))) (pss_one (ps_ret pe_bl)) pss_nil)
    (pss_one (ps_for PassesOwn.never rfl (pi_keys (pe_frz (pe_disp (pps_cons pe_int pe_bl (pps_cons pe_int pe_bl (pps_cons (pe_op op_fdiv (pv 3) pe_int) pe_bl (pps_cons (pe_op op_sub (pv 3) pe_int) pe_bl pps_nil)))) (by rfl) (by rfl) (fun z => by cases z) (by decide)))) (pg_name (i := 4) sc_sLawPromisesRight.nd rfl (Or.inl rfl)) (pss_one (ps_if (pt_cmpR op_lt (pv 4) (pv 3) (nomark _)) (pss_cons (ps_set (i := 5) sc_sLawPromisesRight.nd rfl (Or.inl rfl) (pe_call G_weighing.ok (hr.mono (by decide)) (by rfl) G_weighing.g G_weighing.kp G_weighing.b .nil pass0 (pa_cons (pv 2) (pa_cons (pv 4) pa_nil))))
        (pss_cons (ps_if (pt_cmpR op_ne (pe_callB (cr_sum rfl) (by rfl) T.z_sum bt_sum (pa_cons (pe_lc (own := [("_law_at", 8)]) (g := gName 8) (tt := tYes) (te := (tOp (rIxL K) (tVar 2) (tVar 8))) rfl sc_sLawPromisesRight.nd (pi_list (pv 5)) (blkOk_by (N := ["_law_great", "_law_cases", "_law_weights", "_law_gap_here", "_law_number", "_law_places", "_law_most", "_law_due_here", "_law_at", "_law_one", "_law_other"]) (sc := defScope sLawPromisesRight) (by decide +kernel)) (fun _ _ _ _ _ => (pg_name (i := 8) sc_sLawPromisesRight.nd rfl (Or.inl rfl))) (fun _ _ _ _ _ => pts_nil) (fun _ _ _ _ _ => (pe_ix ix_list (pv 2) (pv 8) (fun _ _ => rfl)))) pa_nil)) (pv 4) (nomark _)) (pss_one (ps_ret pe_bl)) pss_nil)
        (pss_one (ps_if (pt_val (pe_callB (cr_any rfl) (by rfl) T.z_any bt_any (pa_cons (pe_lc (own := [("_law_one", 9), ("_law_other", 10)]) (g := gTup K 2 (gCons (gName 9) (gCons (gName 10) gNil))) (tt := tYes) (te := (tOp (rI0 fun i j => .bl (decide (j ≤ i))) (tVar 9) (tVar 10))) rfl sc_sLawPromisesRight.nd (pi_zip (by rfl) T.z_zip (pa_cons (pv 5) (pa_cons (pe_slice sl_list (pv 5) (po_some pe_int) po_none) pa_nil))) (blkOk_by (N := ["_law_great", "_law_cases", "_law_weights", "_law_gap_here", "_law_number", "_law_places", "_law_most", "_law_due_here", "_law_at", "_law_one", "_law_other"]) (sc := defScope sLawPromisesRight) (by decide +kernel)) (fun _ _ _ _ _ => (pg_tup rfl (pgs_cons (pg_name (i := 9) sc_sLawPromisesRight.nd rfl (Or.inl rfl)) (pgs_cons (pg_name (i := 10) sc_sLawPromisesRight.nd rfl (Or.inl rfl)) pgs_nil)))) (fun _ _ _ _ _ => pts_nil) (fun _ _ _ _ _ => (pe_cmpR op_ge (pv 9) (pv 10) (nomark _)))) pa_nil))) (pss_one (ps_ret pe_bl)) pss_nil)))) pss_nil))))))
  (Evl.pss_cut (ps_if (PW.pt (pw_or (pt_cmpR (op_neD hr.units) (pe_call G_weighing.ok (hr.mono (by decide)) (by rfl) G_weighing.g G_weighing.kp G_weighing.b .nil pass0 (pa_cons (pe_lst pa_nil) (pa_cons pe_int pa_nil))) (pe_lst pa_nil) (nomark _)) (pw_or (pt_cmpR (op_neD hr.units) (pe_call G_weighing.ok (hr.mono (by decide)) (by rfl) G_weighing.g G_weighing.kp G_weighing.b .nil pass0 (pa_cons (pe_lst (pa_cons pe_int (pa_cons pe_int (pa_cons pe_int pa_nil)))) (pa_cons pe_int pa_nil))) (pe_lst (pa_cons pe_int (pa_cons pe_int (pa_cons pe_int pa_nil)))) (nomark _)) (pw_or1 (pt_cmpR op_ne (pe_call G_without.ok (hr.mono (by decide)) (by rfl) G_without.g G_without.kp G_without.b .nil pass0 (pa_cons (pe_lst (pa_cons pe_int (pa_cons pe_int pa_nil))) (pa_cons pe_int pa_nil))) pe_int (nomark _)))))) (pss_one (ps_ret pe_bl)) pss_nil)
  (Evl.pss_cut (ps_if (PW.pt (pw_or (pt_cmpR op_ne (pe_call G_without.ok (hr.mono (by decide)) (by rfl) G_without.g G_without.kp G_without.b .nil pass0 (pa_cons (pe_lst (pa_cons pe_int pa_nil)) (pa_cons pe_int pa_nil))) pe_int (nomark _)) (pw_or1 (pt_cmpR op_ne (pe_call G_without.ok (hr.mono (by decide)) (by rfl) G_without.g G_without.kp G_without.b .nil pass0 (pa_cons (pe_lst (pa_cons pe_int (pa_cons pe_int (pa_cons pe_int pa_nil)))) (pa_cons pe_int pa_nil))) pe_int (nomark _))))) (pss_one (ps_ret pe_bl)) pss_nil)
  (Evl.pss_cut (ps_set (i := 1) sc_sLawPromisesRight.nd rfl (Or.inl rfl) (pe_lst (pa_cons (pe_tup (pa_cons pe_int (pa_cons (pe_lst pa_nil) (pa_cons pe_int (pa_cons pe_bl pa_nil))))) (pa_cons (pe_tup (pa_cons pe_int (pa_cons (pe_lst pa_nil) (pa_cons pe_int (pa_cons pe_bl pa_nil))))) (pa_cons (pe_tup (pa_cons pe_int (pa_cons (pe_lst (pa_cons pe_int (pa_cons pe_int pa_nil))) (pa_cons pe_int (pa_cons pe_bl pa_nil))))) (pa_cons (pe_tup (pa_cons pe_int (pa_cons (pe_lst (pa_cons pe_int (pa_cons pe_int pa_nil))) (pa_cons pe_int (pa_cons pe_bl pa_nil))))) pa_nil))))))
  (Evl.pss_cut (ps_set (i := 1) sc_sLawPromisesRight.nd rfl (Or.inl rfl) (pe_op op_cat (pv 1) (pe_lst (pa_cons (pe_tup (pa_cons pe_int (pa_cons (pe_lst (pa_cons pe_int (pa_cons pe_int pa_nil))) (pa_cons pe_int (pa_cons pe_bl pa_nil))))) (pa_cons (pe_tup (pa_cons pe_int (pa_cons (pe_lst (pa_cons pe_int (pa_cons pe_int pa_nil))) (pa_cons pe_int (pa_cons pe_bl pa_nil))))) (pa_cons (pe_tup (pa_cons pe_int (pa_cons (pe_lst (pa_cons pe_int (pa_cons pe_int (pa_cons pe_int pa_nil)))) (pa_cons pe_int (pa_cons pe_bl pa_nil))))) pa_nil))))))
  (Evl.pss_cut (ps_set (i := 1) sc_sLawPromisesRight.nd rfl (Or.inl rfl) (pe_op op_cat (pv 1) (pe_lst (pa_cons (pe_tup (pa_cons pe_int (pa_cons (pe_lst (pa_cons pe_int (pa_cons pe_int (pa_cons pe_int pa_nil)))) (pa_cons pe_int (pa_cons pe_bl pa_nil))))) (pa_cons (pe_tup (pa_cons pe_int (pa_cons (pe_lst (pa_cons pe_int (pa_cons pe_int (pa_cons pe_int pa_nil)))) (pa_cons pe_int (pa_cons pe_bl pa_nil))))) (pa_cons (pe_tup (pa_cons (pe_un un_neg pe_int) (pa_cons (pe_lst pa_nil) (pa_cons pe_int (pa_cons pe_bl pa_nil))))) pa_nil))))))
  (Evl.pss_cut (ps_for PassesOwn.never rfl (pi_list (pv 1)) (pg_tup rfl (pgs_cons (pg_name (i := 4) sc_sLawPromisesRight.nd rfl (Or.inl rfl)) (pgs_cons (pg_name (i := 2) sc_sLawPromisesRight.nd rfl (Or.inr rfl)) (pgs_cons (pg_name (i := 6) sc_sLawPromisesRight.nd rfl (Or.inl rfl)) (pgs_cons (pg_name (i := 7) sc_sLawPromisesRight.nd rfl (Or.inl rfl)) pgs_nil))))) (pss_one (ps_if (pt_cmpR op_ne (pe_meth (pe_make G_Gap_init.m G_Gap_init.ok (hr.mono (by decide)) (by rfl) G_Gap_init.g G_Gap_init.b .nil pass0 (pa_cons (pv 4) pa_nil)) T.c_Gap M_Gap_shows.me M_Gap_shows.ok (hr.mono (by decide)) M_Gap_shows.b .nil pass0 (pa_cons (pv 2) (pa_cons (pv 6) pa_nil))) (pv 7) (nomark _)) (pss_one (ps_ret pe_bl)) pss_nil)))
  (pss_one (ps_ret (pe_call G_law_fewest_promises.ok (hr.mono (by decide)) (by rfl) G_law_fewest_promises.g G_law_fewest_promises.kp G_law_fewest_promises.b .nil pass0 (pa_cons (pv 0) pa_nil)))))))))))))), ?_⟩
    refine w_start (σ := [none, none, none, none, none, none, none, none, none, none, none]) rfl ?_
    wtm_at "w"
    rw [show (10 : Int) ^ (30 : Int).toNat = 1000000000000000000000000000000 by decide]
    refine w_cut (fun σ' H' => ∃ (lc : Addr) (ts : List Addr), σ' = [some (.int 1000000000000000000000000000000), some (.ref lc), none, none, none, none, none, none, none, none, none] ∧ ts.length ≤ 6 ∧ H' lc = some (.lst (ts.map V.ref)) ∧ (∀ t ∈ ts, Case1 H' t) ∧ Same H H') ?_ ?_
    · have sc := Same.refl H
      wtm_at "w"
      refine v_newL (n := 0) (by decide) fun c0_0 G1 m1 t1 e1 => ?_
      wtm_at "w"
      refine v_newL (n := 2) (by decide) fun u0 G2 m2 t2 e2 => ?_
      wtm_at "w"
      refine v_newL (n := 1) (by decide) fun c1_0 G3 m3 t3 e3 => ?_
      wtm_at "w"
      refine v_newL (n := 2) (by decide) fun u1 G4 m4 t4 e4 => ?_
      wtm_at "w"
      refine v_newL (n := 1) (by decide) fun c2_0 G5 m5 t5 e5 => ?_
      wtm_at "w"
      refine v_newL (n := 2) (by decide) fun u2 G6 m6 t6 e6 => ?_
      wtm_at "w"
      refine v_newL (n := 3) (by decide) fun c3_0 G7 m7 t7 e7 => ?_
      wtm_at "w"
      refine v_newL (n := 2) (by decide) fun u3 G8 m8 t8 e8 => ?_
      wtm_at "w"
      refine v_newL (n := 3) (by decide) fun c4_0 G9 m9 t9 e9 => ?_
      wtm_at "w"
      refine v_newL (n := 2) (by decide) fun u4 G10 m10 t10 e10 => ?_
      wtm_at "w"
      refine v_newL (n := 3) (by decide) fun c5_0 G11 m11 t11 e11 => ?_
      wtm_at "w"
      refine v_newL (n := 2) (by decide) fun u5 G12 m12 t12 e12 => ?_
      wtm_at "w"
      refine v_newL (n := 6) (by decide) fun r G13 m13 t13 e13 => ?_
      have w0 : Case1 G13 u0 := ⟨c0_0, [], 1, by wtm_at "hp", by wtm_at "hp", by decide +kernel⟩
      have w1 : Case1 G13 u1 := ⟨c1_0, [1], 2, by wtm_at "hp", by wtm_at "hp", by decide +kernel⟩
      have w2 : Case1 G13 u2 := ⟨c2_0, [2], 1, by wtm_at "hp", by wtm_at "hp", by decide +kernel⟩
      have w3 : Case1 G13 u3 := ⟨c3_0, [4, 1, 2], 8, by wtm_at "hp", by wtm_at "hp", by decide +kernel⟩
      have w4 : Case1 G13 u4 := ⟨c4_0, [1, 1, 3], 6, by wtm_at "hp", by wtm_at "hp", by decide +kernel⟩
      have w5 : Case1 G13 u5 := ⟨c5_0, [1, 2, 5], 4, by wtm_at "hp", by wtm_at "hp", by decide +kernel⟩
      have tz := ((((((((((((t1.trans t2).trans t3).trans t4).trans t5).trans t6).trans t7).trans t8).trans t9).trans t10).trans t11).trans t12).trans t13)
      clear m1 m2 m3 m4 m5 m6 m7 m8 m9 m10 m11 m12 m13
      clear t1 t2 t3 t4 t5 t6 t7 t8 t9 t10 t11 t12 t13
      wtm_at "w"
      refine ⟨r, [u0, u1, u2, u3, u4, u5], rfl, by simp, e13, fun t ht => ?_, sc.trans tz⟩
      simp only [List.mem_cons, List.not_mem_nil, or_false] at ht
      rcases ht with rfl | rfl | rfl | rfl | rfl | rfl <;> assumption
    rintro σ' H1 ⟨lc, ts, rfl, hts0, dc, hts, sc⟩
    refine w_cut (fun σ' H' => ∃ (lc : Addr) (ts : List Addr), σ' = [some (.int 1000000000000000000000000000000), some (.ref lc), none, none, none, none, none, none, none, none, none] ∧ ts.length ≤ 12 ∧ H' lc = some (.lst (ts.map V.ref)) ∧ (∀ t ∈ ts, Case1 H' t) ∧ Same H H') ?_ ?_
    · wtm_at "w"
      refine v_newL (n := 2) (by decide) fun c0_0 G1 m1 t1 e1 => ?_
      wtm_at "w"
      refine v_newL (n := 2) (by decide) fun u0 G2 m2 t2 e2 => ?_
      wtm_at "w"
      refine v_newL (n := 1) (by decide) fun c1_0z G3 m3 t3 e3 => ?_
      wtm_at "w"
      refine v_rep e3 (by decide) (by decide) fun c1_0 G4 m4 t4 e4 => ?_
      wtm_at "w"
      refine v_newL (n := 2) (by decide) fun u1 G5 m5 t5 e5 => ?_
      wtm_at "w"
      refine v_newL (n := 4) (by decide) fun c2_0 G6 m6 t6 e6 => ?_
      wtm_at "w"
      refine v_newL (n := 2) (by decide) fun u2 G7 m7 t7 e7 => ?_
      wtm_at "w"
      refine v_newL (n := 3) (by decide) fun r G8 m8 t8 e8 => ?_
      have w0 : Case1 G8 u0 := ⟨c0_0, [1000000000000000000000000000000, 1], 2, by wtm_at "hp", by wtm_at "hp", by decide +kernel⟩
      have w1 : Case1 G8 u1 := ⟨c1_0, (List.replicate (40 : Int).toNat 1), 41, by wtm_at "hp", by wtm_at "hp", by decide +kernel⟩
      have w2 : Case1 G8 u2 := ⟨c2_0, [3, 3, 1, 1], 9, by wtm_at "hp", by wtm_at "hp", by decide +kernel⟩
      have tz := (((((((t1.trans t2).trans t3).trans t4).trans t5).trans t6).trans t7).trans t8)
      have dl := tz _ _ dc
      have hx : ∀ t ∈ ts, Case1 G8 t := fun t ht => (hts t ht).same tz
      clear m1 m2 m3 m4 m5 m6 m7 m8
      clear t1 t2 t3 t4 t5 t6 t7 t8
      wtm_at "w"
      refine v_catV (ys := ([u0, u1, u2] : List Addr).map V.ref) dl e8 (by simp only [List.length_map, List.length_cons, List.length_nil]; omega) fun rr GG mm tt ee => ?_
      wtm_at "w"
      refine ⟨rr, ts ++ [u0, u1, u2], rfl, by simp only [List.length_append, List.length_cons, List.length_nil]; omega, by rw [List.map_append]; exact ee, fun t ht => ?_, sc.trans (tz.trans tt)⟩
      refine Case1.same tt ?_
      rcases List.mem_append.mp ht with ht | ht
      · exact hx t ht
      · simp only [List.mem_cons, List.not_mem_nil, or_false] at ht
        rcases ht with rfl | rfl | rfl <;> assumption
    rintro σ' H2 ⟨lc, ts, rfl, hts0, dc, hts, sc⟩
    refine w_cut (fun σ' H' => ∃ y1 y2 y3 y4 y5 : Option V, σ' = [some (.int 1000000000000000000000000000000), y1, y2, y3, y4, y5, none, none, none, none, none] ∧ Same H H') ?_ ?_
    · wtm_at "w"
      refine v_forG (emb := V.ref) (ns := ts) (sq_h dc) (fun r σ' H' => ∃ y2 y3 y4 y5 : Option V, σ' = [some (.int 1000000000000000000000000000000), some (.ref lc), y2, y3, y4, y5, none, none, none, none, none] ∧ Same H2 H')
        ⟨_, _, _, _, rfl, Same.refl _⟩ (fun r σ' H' h => by obtain ⟨_, _, _, _, _, s⟩ := h; exact s.seq (sq_h dc)) ?_ ?_
      · rintro pre t r σ' H' hmem ⟨y2, y3, y4, y5, rfl, sE⟩
        have hm : t ∈ ts := by rw [hmem]; exact List.mem_append.mpr (.inr List.mem_cons_self)
        obtain ⟨l, ws, g, ht, hl, hok⟩ := (hts t hm).same sE
        rw [Bool.and_eq_true, decide_eq_true_eq] at hok
        obtain ⟨h1, h2⟩ := hok
        obtain ⟨hp, hz⟩ := allPos.ok h1
        have hg0 := fm_pos hp
        clear hmem hts dc hts0
        refine g_pair (st_h ht) ?_
        wtm_at "w"
        refine c_first_gap (sq_h hl) hp (by omega) fun J1 j1 => ?_
        wtm_at "w"
        refine v_iff (by rw [h2]; simp) ?_
        wtm_at "w"
        refine w_make00 fun o dx J2 m2 j2 e2 => ?_
        wtm_at "w"
        refine v_meth e2 rfl ?_
        wtm_at "w"
        refine c_All_shows (sq_h (j2 _ _ (j1 _ _ hl))) fun J3 j3 => ?_
        wtm_at "w"
        refine v_iff (by rw [h2, decide_eq_true (by omega)]; rfl) ?_
        wtm_at "w"
        have jA := (j1.trans j2).trans j3
        refine w_make00 fun o4 dx4 J4 m4 j4 e4 => ?_
        wtm_at "w"
        refine v_meth e4 rfl ?_
        wtm_at "w"
        refine c_All_shows (sq_h (j4 _ _ (jA _ _ hl))) fun J5 j5 => ?_
        wtm_at "w"
        refine v_iff (by rw [h2]; exact decide_eq_false (by omega)) ?_
        have jB := (jA.trans j4).trans j5
        have hl5 := jB _ _ hl
        clear e2 e4 m2 m4 j1 j2 j3 j4 j5 jA
        wtm_at "w"
        refine w_disp fun d J6 m6 j6 e6 => ?_
        wtm_at "w"
        refine v_keys [0, 1, g / 2, g - 1] rfl e6 (by simp) fun J7 hJ => ?_
        have j7 : Same J5 J7 := fun q x e => hJ q x (ne_of_none e m6) (j6 _ _ e)
        refine ⟨fun σ' H' => ∃ y4 y5 : Option V, σ' = [some (.int 1000000000000000000000000000000), some (.ref lc), some (.ref l), some (.int g), y4, y5, none, none, none, none, none] ∧ Same J7 H', ⟨_, _, rfl, Same.refl _⟩, fun σ' H' h => h.choose_spec.choose_spec.2, ?_, ?_⟩
        · rintro n σ' H8 hn ⟨z4, z5, rfl, s8⟩
          have hn0 : 0 ≤ n := by
            simp only [List.mem_cons, List.not_mem_nil, or_false] at hn
            omega
          have hl8 := s8 _ _ (j7 _ _ hl5)
          wtm_at "w"
          refine v_if (fun hc => ?_) (fun hc => ?_)
          · have hlt : n < fm ws := by rw [h2]; exact of_decide_eq_true hc
            have hwl := wg_length ws n
            wtm_at "w"
            refine c_weighing (sq_h hl8) hp (by omega) hn0 hlt fun p9 J9 m9 j9 e9 => ?_
            wtm_at "w"
            refine v_lcI (σ2 := fun x => [some (.int 1000000000000000000000000000000), some (.ref lc), some (.ref l), some (.int g), some (.int n), some (.ref p9), none, none, some (.int x), none, none]) (fun _ => true) (fun x => .int (ws.getD x.toNat 0)) (sq_h e9) (by omega) (fun _ => rfl) (fun _ _ => rfl) (fun n H' _ _ R h => t_yes h) (fun x H' hx _ s R h => ?_) (fun D J10 m10 j10 e10 => ?_)
            · obtain ⟨i, rfl, hi⟩ := wg_mem hx
              wtm_at "w"
              refine v_ixL (sq_h (s _ _ (j9 _ _ hl8))) (at_get (by omega) (by omega)) ?_
              exact h _ (Same.refl _)
            rw [filter_yes, map_int] at e10
            wtm_at "w"
            refine v_iff (by rw [wg_sum hn0 hlt]; simp) ?_
            wtm_at "w"
            refine v_sliceF (sq_h (j10 _ _ e9)) (by decide) fun p11 J11 m11 j11 e11 => ?_
            wtm_at "w"
            refine v_lcZ (σ2 := fun x y => [some (.int 1000000000000000000000000000000), some (.ref lc), some (.ref l), some (.int g), some (.int n), some (.ref p9), none, none, none, some (.int x), some (.int y)]) (fun x y => decide (y ≤ x)) (sq_h (j11 _ _ (j10 _ _ e9))) (sq_h e11) (by omega) (fun _ _ => rfl) (fun _ _ => rfl) (fun x y H' s R h => ?_) (fun D J12 m12 j12 e12 => ?_)
            · wtm_at "w"
              exact h _ (Same.refl _)
            wtm_at "w"
            refine v_any (sq_h e12) ?_
            rw [show (1 : Int).toNat = 1 from rfl, zip_rise (wg_lt ws n)]
            wtm_at "w"
            refine v_iff rfl ?_
            wtm_at "w"
            exact ⟨_, _, rfl, s8.trans (((j9.trans j10).trans j11).trans j12)⟩
          · wtm_at "w"
            exact ⟨_, _, rfl, s8⟩
        · rintro σ' H8 ⟨z4, z5, rfl, s8⟩
          exact ⟨_, _, _, _, rfl, sE.trans ((jB.trans j7).trans s8)⟩
      · rintro σ' H' ⟨y2, y3, y4, y5, rfl, sE⟩
        wtm_at "w"
        exact ⟨_, _, _, _, _, rfl, sc.trans sE⟩
    rintro σ' H3 ⟨y1, y2, y3, y4, y5, rfl, sd⟩
    clear hts dc hts0 sc
    refine w_cut (fun σ' H' => σ' = [some (.int 1000000000000000000000000000000), y1, y2, y3, y4, y5, none, none, none, none, none] ∧ Same H H') ?_ ?_
    · wtm_at "w"
      refine v_newL (n := 0) (by decide) fun q1 J1 m1 j1 e1 => ?_
      wtm_at "w"
      refine c_weighing (ws := []) (n := 0) (sq_h e1) Pos.nil (by decide) (by decide) (by decide) fun q2 J2 m2 j2 e2 => ?_
      wtm_at "w"
      refine v_newL (n := 0) (by decide) fun q3 J3 m3 j3 e3 => ?_
      wtm_at "w"
      refine v_neL (ms := []) (sq_h (j3 _ _ e2)) (sq_h e3) ?_
      wtm_at "w"
      refine v_iff (by decide) ?_
      wtm_at "w"
      refine v_newL (n := 3) (by decide) fun q4 J4 m4 j4 e4 => ?_
      wtm_at "w"
      refine c_weighing (ws := [4, 1, 2]) (n := 7) (sq_h e4) (fun x hx => by simp at hx; omega) (by decide) (by decide) (by decide) fun q5 J5 m5 j5 e5 => ?_
      wtm_at "w"
      refine v_newL (n := 3) (by decide) fun q6 J6 m6 j6 e6 => ?_
      wtm_at "w"
      refine v_neL (ms := [0, 1, 2]) (sq_h (j6 _ _ e5)) (sq_h e6) ?_
      wtm_at "w"
      refine v_iff (by decide) ?_
      wtm_at "w"
      refine v_newL (n := 2) (by decide) fun q7 J7 m7 j7 e7 => ?_
      wtm_at "w"
      refine c_without (ws := [1, 1]) (n := 0) (sq_h e7) (fun x hx => by simp at hx; omega) (by decide) (by decide) (by decide) fun J8 j8 => ?_
      wtm_at "w"
      refine v_iff (by decide) ?_
      wtm_at "w"
      exact ⟨rfl, sd.trans (((((((j1.trans j2).trans j3).trans j4).trans j5).trans j6).trans j7).trans j8)⟩
    rintro σ' H4 ⟨rfl, se⟩
    refine w_cut (fun σ' H' => σ' = [some (.int 1000000000000000000000000000000), y1, y2, y3, y4, y5, none, none, none, none, none] ∧ Same H H') ?_ ?_
    · wtm_at "w"
      refine v_newL (n := 1) (by decide) fun q1 J1 m1 j1 e1 => ?_
      wtm_at "w"
      refine c_without (ws := [1]) (n := 0) (sq_h e1) (fun x hx => by simp at hx; omega) (by decide) (by decide) (by decide) fun J2 j2 => ?_
      wtm_at "w"
      refine v_iff (by decide) ?_
      wtm_at "w"
      refine v_newL (n := 3) (by decide) fun q3 J3 m3 j3 e3 => ?_
      wtm_at "w"
      refine c_without (ws := [4, 1, 2]) (n := 1) (sq_h e3) (fun x hx => by simp at hx; omega) (by decide) (by decide) (by decide) fun J4 j4 => ?_
      wtm_at "w"
      refine v_iff (by decide) ?_
      wtm_at "w"
      exact ⟨rfl, se.trans (((j1.trans j2).trans j3).trans j4)⟩
    rintro σ' H5 ⟨rfl, sc⟩
    refine w_cut (fun σ' H' => ∃ (lc : Addr) (ts : List Addr), σ' = [some (.int 1000000000000000000000000000000), some (.ref lc), y2, y3, y4, y5, none, none, none, none, none] ∧ ts.length ≤ 6 ∧ H' lc = some (.lst (ts.map V.ref)) ∧ (∀ t ∈ ts, Case2 H' t) ∧ Same H H') ?_ ?_
    · wtm_at "w"
      refine v_newL (n := 0) (by decide) fun c0_1 G1 m1 t1 e1 => ?_
      wtm_at "w"
      refine v_newL (n := 4) (by decide) fun u0 G2 m2 t2 e2 => ?_
      wtm_at "w"
      refine v_newL (n := 0) (by decide) fun c1_1 G3 m3 t3 e3 => ?_
      wtm_at "w"
      refine v_newL (n := 4) (by decide) fun u1 G4 m4 t4 e4 => ?_
      wtm_at "w"
      refine v_newL (n := 2) (by decide) fun c2_1 G5 m5 t5 e5 => ?_
      wtm_at "w"
      refine v_newL (n := 4) (by decide) fun u2 G6 m6 t6 e6 => ?_
      wtm_at "w"
      refine v_newL (n := 2) (by decide) fun c3_1 G7 m7 t7 e7 => ?_
      wtm_at "w"
      refine v_newL (n := 4) (by decide) fun u3 G8 m8 t8 e8 => ?_
      wtm_at "w"
      refine v_newL (n := 4) (by decide) fun r G9 m9 t9 e9 => ?_
      have w0 : Case2 G9 u0 := ⟨c0_1, [], 1, 1, true, by wtm_at "hp", by wtm_at "hp", by decide +kernel⟩
      have w1 : Case2 G9 u1 := ⟨c1_1, [], 2, 2, true, by wtm_at "hp", by wtm_at "hp", by decide +kernel⟩
      have w2 : Case2 G9 u2 := ⟨c2_1, [1, 2], 0, 5, false, by wtm_at "hp", by wtm_at "hp", by decide +kernel⟩
      have w3 : Case2 G9 u3 := ⟨c3_1, [1, 2], 3, 5, false, by wtm_at "hp", by wtm_at "hp", by decide +kernel⟩
      have tz := ((((((((t1.trans t2).trans t3).trans t4).trans t5).trans t6).trans t7).trans t8).trans t9)
      clear m1 m2 m3 m4 m5 m6 m7 m8 m9
      clear t1 t2 t3 t4 t5 t6 t7 t8 t9
      wtm_at "w"
      refine ⟨r, [u0, u1, u2, u3], rfl, by simp, e9, fun t ht => ?_, sc.trans tz⟩
      simp only [List.mem_cons, List.not_mem_nil, or_false] at ht
      rcases ht with rfl | rfl | rfl | rfl <;> assumption
    rintro σ' H6 ⟨lc, ts, rfl, hts0, dc, hts, sc⟩
    refine w_cut (fun σ' H' => ∃ (lc : Addr) (ts : List Addr), σ' = [some (.int 1000000000000000000000000000000), some (.ref lc), y2, y3, y4, y5, none, none, none, none, none] ∧ ts.length ≤ 12 ∧ H' lc = some (.lst (ts.map V.ref)) ∧ (∀ t ∈ ts, Case2 H' t) ∧ Same H H') ?_ ?_
    · wtm_at "w"
      refine v_newL (n := 2) (by decide) fun c0_1 G1 m1 t1 e1 => ?_
      wtm_at "w"
      refine v_newL (n := 4) (by decide) fun u0 G2 m2 t2 e2 => ?_
      wtm_at "w"
      refine v_newL (n := 2) (by decide) fun c1_1 G3 m3 t3 e3 => ?_
      wtm_at "w"
      refine v_newL (n := 4) (by decide) fun u1 G4 m4 t4 e4 => ?_
      wtm_at "w"
      refine v_newL (n := 3) (by decide) fun c2_1 G5 m5 t5 e5 => ?_
      wtm_at "w"
      refine v_newL (n := 4) (by decide) fun u2 G6 m6 t6 e6 => ?_
      wtm_at "w"
      refine v_newL (n := 3) (by decide) fun r G7 m7 t7 e7 => ?_
      have w0 : Case2 G7 u0 := ⟨c0_1, [1, 2], 4, 5, true, by wtm_at "hp", by wtm_at "hp", by decide +kernel⟩
      have w1 : Case2 G7 u1 := ⟨c1_1, [1, 2], 6, 5, false, by wtm_at "hp", by wtm_at "hp", by decide +kernel⟩
      have w2 : Case2 G7 u2 := ⟨c2_1, [1, 2, 4], 4, 7, false, by wtm_at "hp", by wtm_at "hp", by decide +kernel⟩
      have tz := ((((((t1.trans t2).trans t3).trans t4).trans t5).trans t6).trans t7)
      have dl := tz _ _ dc
      have hx : ∀ t ∈ ts, Case2 G7 t := fun t ht => (hts t ht).same tz
      clear m1 m2 m3 m4 m5 m6 m7
      clear t1 t2 t3 t4 t5 t6 t7
      wtm_at "w"
      refine v_catV (ys := ([u0, u1, u2] : List Addr).map V.ref) dl e7 (by simp only [List.length_map, List.length_cons, List.length_nil]; omega) fun rr GG mm tt ee => ?_
      wtm_at "w"
      refine ⟨rr, ts ++ [u0, u1, u2], rfl, by simp only [List.length_append, List.length_cons, List.length_nil]; omega, by rw [List.map_append]; exact ee, fun t ht => ?_, sc.trans (tz.trans tt)⟩
      refine Case2.same tt ?_
      rcases List.mem_append.mp ht with ht | ht
      · exact hx t ht
      · simp only [List.mem_cons, List.not_mem_nil, or_false] at ht
        rcases ht with rfl | rfl | rfl <;> assumption
    rintro σ' H7 ⟨lc, ts, rfl, hts0, dc, hts, sc⟩
    refine w_cut (fun σ' H' => ∃ (lc : Addr) (ts : List Addr), σ' = [some (.int 1000000000000000000000000000000), some (.ref lc), y2, y3, y4, y5, none, none, none, none, none] ∧ ts.length ≤ 18 ∧ H' lc = some (.lst (ts.map V.ref)) ∧ (∀ t ∈ ts, Case2 H' t) ∧ Same H H') ?_ ?_
    · wtm_at "w"
      refine v_newL (n := 3) (by decide) fun c0_1 G1 m1 t1 e1 => ?_
      wtm_at "w"
      refine v_newL (n := 4) (by decide) fun u0 G2 m2 t2 e2 => ?_
      wtm_at "w"
      refine v_newL (n := 3) (by decide) fun c1_1 G3 m3 t3 e3 => ?_
      wtm_at "w"
      refine v_newL (n := 4) (by decide) fun u1 G4 m4 t4 e4 => ?_
      wtm_at "w"
      refine v_newL (n := 0) (by decide) fun c2_1 G5 m5 t5 e5 => ?_
      wtm_at "w"
      refine v_newL (n := 4) (by decide) fun u2 G6 m6 t6 e6 => ?_
      wtm_at "w"
      refine v_newL (n := 3) (by decide) fun r G7 m7 t7 e7 => ?_
      have w0 : Case2 G7 u0 := ⟨c0_1, [2, 9, 1], 5, 20, true, by wtm_at "hp", by wtm_at "hp", by decide +kernel⟩
      have w1 : Case2 G7 u1 := ⟨c1_1, [1, 2, 4], 8, 8, true, by wtm_at "hp", by wtm_at "hp", by decide +kernel⟩
      have w2 : Case2 G7 u2 := ⟨c2_1, [], -1, 5, false, by wtm_at "hp", by wtm_at "hp", by decide +kernel⟩
      have tz := ((((((t1.trans t2).trans t3).trans t4).trans t5).trans t6).trans t7)
      have dl := tz _ _ dc
      have hx : ∀ t ∈ ts, Case2 G7 t := fun t ht => (hts t ht).same tz
      clear m1 m2 m3 m4 m5 m6 m7
      clear t1 t2 t3 t4 t5 t6 t7
      wtm_at "w"
      refine v_catV (ys := ([u0, u1, u2] : List Addr).map V.ref) dl e7 (by simp only [List.length_map, List.length_cons, List.length_nil]; omega) fun rr GG mm tt ee => ?_
      wtm_at "w"
      refine ⟨rr, ts ++ [u0, u1, u2], rfl, by simp only [List.length_append, List.length_cons, List.length_nil]; omega, by rw [List.map_append]; exact ee, fun t ht => ?_, sc.trans (tz.trans tt)⟩
      refine Case2.same tt ?_
      rcases List.mem_append.mp ht with ht | ht
      · exact hx t ht
      · simp only [List.mem_cons, List.not_mem_nil, or_false] at ht
        rcases ht with rfl | rfl | rfl <;> assumption
    rintro σ' H8 ⟨lc, ts, rfl, hts0, dc, hts, sc⟩
    refine w_cut (fun σ' H' => ∃ y1 y2 y3 y4 y5 y6 y7 : Option V, σ' = [some (.int 1000000000000000000000000000000), y1, y2, y3, y4, y5, y6, y7, none, none, none] ∧ Same H H') ?_ ?_
    · wtm_at "w"
      refine v_forG (emb := V.ref) (ns := ts) (sq_h dc) (fun r σ' H' => ∃ y2 y3 y4 y5 y6 y7 : Option V, σ' = [some (.int 1000000000000000000000000000000), some (.ref lc), y2, y3, y4, y5, y6, y7, none, none, none] ∧ Same H8 H')
        ⟨_, _, _, _, _, _, rfl, Same.refl _⟩ (fun r σ' H' h => by obtain ⟨_, _, _, _, _, _, _, s⟩ := h; exact s.seq (sq_h dc)) ?_ ?_
      · rintro pre t r σ' H' hmem ⟨y2, y3, y4, y5, y6, y7, rfl, sE⟩
        have hm : t ∈ ts := by rw [hmem]; exact List.mem_append.mpr (.inr List.mem_cons_self)
        obtain ⟨l, ws, n, m, b, ht, hl, hok⟩ := (hts t hm).same sE
        rw [Bool.and_eq_true] at hok
        obtain ⟨h1, h2⟩ := hok
        obtain ⟨hp, hz⟩ := allPos.ok h1
        refine g_t4 (st_h ht) ?_
        wtm_at "w"
        refine v_make fun o dx J1 m1 j1 e1 _ => ?_
        refine c_Gap_init e1 ⟨rfl, ?_⟩
        have j1' : Same H' (upd J1 o (.ins c.Gap dx [("number", .int n)])) := same_mut j1 m1
        have e2 : upd J1 o (.ins c.Gap dx [("number", .int n)]) o = some (.ins c.Gap dx [("number", .int n)]) := upd_same
        generalize upd J1 o (.ins c.Gap dx [("number", .int n)]) = J2 at j1' e2
        wtm_at "w"
        refine v_meth e2 (lk1n (by decide +kernel)) ?_
        wtm_at "w"
        refine c_Gap_shows e2 (sq_h (j1' _ _ hl)) (by omega) fun J3 j3 => ?_
        wtm_at "w"
        refine v_iff (by rw [h2]; rfl) ?_
        wtm_at "w"
        exact ⟨_, _, _, _, _, _, rfl, sE.trans (j1'.trans j3)⟩
      · rintro σ' H' ⟨y2, y3, y4, y5, y6, y7, rfl, sE⟩
        wtm_at "w"
        exact ⟨_, _, _, _, _, _, _, rfl, sc.trans sE⟩
    rintro σ' H9 ⟨y1, y2, y3, y4, y5, y6, y7, rfl, sf⟩
    wtm_at "w"
    exact c_law_fewest_promises fun J j => k _ (sf.trans j)
/-! ### the law -/
def sp_law (K : PySem.W.Frag) : Sp := fun vs H Q _ => ∃ (a : Addr) (ns : List Int), vs = [.ref a] ∧ SqL K H a (ns.map V.int) ∧ ns.length ≤ 63 ∧ (∀ z ∈ ns, Builtin.Int.intBits z ≤ AA) ∧ ∀ H', Q (.bl true) H'
theorem law_ask {K : PySem.W.Frag} {H : Hp} (a : Addr) (ns : List Int) (h : ns.length ≤ 63) (hb : ∀ z ∈ ns, Builtin.Int.intBits z ≤ 1048576) (hS : SqL K H a (ns.map V.int)) : sp_law K [.ref a] H (fun v _ => v = .bl true) fun _ _ _ => False := ⟨a, ns, rfl, hS, h, hb, fun _ => rfl⟩
theorem gapB_and (ns : List Int) (m g : Int) : (((decide (1 ≤ g) && decide (g ≤ m)) && !decide (g ∈ ns)) && decide (slt g ns < g)) = gapB ns m g := by
  unfold gapB
  by_cases h1 : 1 ≤ g <;> by_cases h2 : g ≤ m <;> by_cases h3 : g ∈ ns <;> simp [h1, h2, h3]
theorem Good.fm_le {ws : List Int} (h : Good ws) : fm ws ≤ 119 * BW + 1 := by
  have h1 := fm_le_sum h.pos
  have ⟨_, h3⟩ := h.sum
  omega
theorem Good.fm_lt {ws : List Int} (h : Good ws) : (fm ws).natAbs < 2 ^ 210 := by
  have h1 := h.fm_le
  have h2 := fm_pos h.pos
  have h4 : (119 : Int) * BW + 1 < 2 ^ 210 := by decide
  omega
theorem Good.take {ws : List Int} (h : Good ws) (n : Nat) : Good (ws.take n) :=
  ⟨h.pos.sub fun x hx => List.mem_of_mem_take hx, by rw [List.length_take]; have := h.len; omega, fun x hx => h.big x (List.mem_of_mem_take hx)⟩
theorem big_NN : (119 : Int) * BW + 100 < 2 ^ NN := by
  have : (2 : Nat) ^ 256 ≤ 2 ^ NN := Nat.pow_le_pow_right (by decide) (by decide)
  have h2 : ((2 ^ 256 : Nat) : Int) ≤ ((2 ^ NN : Nat) : Int) := Int.ofNat_le.mpr this
  have h3 : ((2 ^ NN : Nat) : Int) = 2 ^ NN := by exact_mod_cast rfl
  rw [h3] at h2
  exact Int.lt_of_lt_of_le (by decide) h2
theorem ok_law {f f0 f1 f2 f3 f4 f5 f6 f7 f8 f9 : Addr} {fd fd0 fd1 fd2 fd3 fd4 fd5 fd6 fd7 fd8 fd9 : FuncData} (A : At K mg "law" sLaw ["_law_script"] f fd) (T : Tx K mg c) (M_All_shows : MtAt P w K mg base CX0 2 c.All "shows" ["self", "weights", "most"] (sp_All_shows K c) f0 fd0) (G_Gap_init : InAt P w K mg base CX0 1 c.Gap "Gap" ["self", "number"] (sp_Gap_init K c) f1 fd1) (M_Gap_shows : MtAt P w K mg base CX0 2 c.Gap "shows" ["self", "weights", "most"] (sp_Gap_shows K c) f2 fd2) (G_fewest : FnAt P w K mg base CX0 3 "fewest" ["weights", "most"] (sp_fewest K c) f3 fd3) (G_law_set : FnAt P w K mg base CX0 1 "_law_set" ["_law_script"] (sp_law_set K c) f4 fd4) (G_law_gap : FnAt P w K mg base CX0 1 "_law_gap" ["_law_weights"] (sp_law_gap K c) f5 fd5) (G_law_says : FnAt P w K mg base CX0 1 "_law_says" ["_law_said", "_law_due_here"] (sp_law_says K c) f6 fd6) (G_law_bent : FnAt P w K mg base CX0 1 "_law_bent" ["_law_some", "_law_cell"] (sp_law_bent K c) f7 fd7) (G_law_best_right : FnAt P w K mg base CX0 3 "_law_best_right" ["_law_weights", "_law_most", "_law_added", "_law_misses"] (sp_law_best_right K c) f8 fd8) (G_law_promises_right : FnAt P w K mg base CX0 5 "_law_promises_right" [] (sp_law_promises_right K c) f9 fd9) (Z_All : Mk0 K mg c.All "All") : FnAt P w K mg base CX0 6 "law" ["_law_script"] (sp_law K) f fd := by
  refine ⟨A.g, A.F.kp, A.b, A.F.ok sc_sLaw (fun vs H Q E h => ?_) (fun cdv Ar outer s H vs Q E hr h => ?_)⟩
  · obtain ⟨a, ns, rfl, _⟩ := h
    rfl
  · obtain ⟨a, ns, rfl, hS, hz, hbits, k⟩ := h
    have hcG := T.c_Gap
    have hnG := T.n_Gap_number
    have hcB := T.c_Best
    have hnA := T.n_Best_added
    have hnM := T.n_Best_misses
    have hNN : NN = 10000 := rfl
    refine ⟨(tSeq (tIfS (tNot (tB (tCall (sp_law_promises_right K c) [] E0 tNil))) (tRet (tC (.bl false))) tNext)
  (tSeq (tAsg (tSl (rSlL K) (tVar 0) tNoPart (tPart (tC (.int 63)))) (gName 0))
  (tSeq (tAsg (tCall (sp_law_set K c) [] E0 (tCons (tVar 0) tNil)) (gName 1))
  (Evl.tCut (tIfS (tTest (tOp rEq (tOp (rI (fun _ j => 0 < j) fun i j => .int (i % j)) (tCB (rSum K) (tCons (tVar 0) tNil)) (tC (.int 2))) (tC (.int 1)))) (tAsg (tSl (rSlL K) (tVar 1) tNoPart (tPart (tC (.int 12)))) (gName 1)) tNext)
  (tSeq (tAsg (tCall (sp_law_gap K c) [] E0 (tCons (tVar 1) tNil)) (gName 2))
  (tSeq (tFor (iList K (tOp rCat (tSl (rSlL K) (tVar 0) tNoPart (tPart (tC (.int 4)))) (tStep K (tVar 0)))) (gName 3) (tSeq (tAsg (tOp (rI0 fun i j => .int (i + j)) (tVar 2) (tOp (rI (fun _ j => 0 < j) fun i j => .int (i % j)) (tVar 3) (tC (.int 90)))) (gName 4))
  (tSeq (tAsg (tCall (sp_fewest K c) [] E0 (tCons (tVar 1) (tCons (tVar 4) tNil))) (gName 5))
  (tSeq (tIfS (tOr (tNot (tB (tCall (sp_law_says K c) [] E0 (tCons (tMeth c.All "shows" (sp_All_shows K c) [] E0 (tMake00 c.All) (tCons (tVar 1) (tCons (tVar 4) tNil))) (tCons (tC (.bl false)) tNil))))) (tNot (tB (tCall (sp_law_says K c) [] E0 (tCons (tMeth c.All "shows" (sp_All_shows K c) [] E0 (tMake00 c.All) (tCons (tVar 1) (tCons (tOp (rI (fun _ j => 0 < j) fun i j => .int (i % j)) (tVar 3) (tVar 2)) tNil))) (tCons (tC (.bl true)) tNil)))))) (tRet (tC (.bl false))) tNext)
  (tSeq (tFor (iList K (tLst (tCons (tVar 2) (tCons (tOp (rI0 fun i j => .int (i + j)) (tVar 2) (tC (.int 1))) (tCons (tOp (rI (fun _ j => 0 < j) fun i j => .int (i % j)) (tVar 3) (tOp (rI CMulX fun i j => .int (i * j)) (tC (.int 2)) (tVar 2))) (tCons (tOp (rI0 fun i j => .int (i - j)) (tOp (rI (fun _ j => 0 < j) fun i j => .int (i % j)) (tUn (rU fun i => .int (-i)) (tVar 3)) (tC (.int 9))) (tC (.int 9))) (tCons (tOp (rI0 fun i j => .int (i + j)) (tCB (rSum K) (tCons (tVar 1) tNil)) (tC (.int 1))) (tCons (tCB (rSum K) (tCons (tVar 1) tNil)) (tCons (tVar 4) (tCons (tC (.int 0)) tNil)))))))))) (gName 6) (tSeq (tAsg (tAndV (tChain (rI0 fun i j => .bl (decide (i ≤ j))) (rI0 fun i j => .bl (decide (i ≤ j))) (tC (.int 1)) (tVar 6) (tVar 4)) (tOp (rIn K true) (tVar 6) (tVar 1))) (gName 7))
  (tSeq (tAsg (tAndV (tVar 7) (tOp (rI0 fun i j => .bl (decide (i < j))) (tCB (rSum K) (tCons (tLc (iList K (tVar 1)) (gName 9) (tTest (tOp (rI0 fun i j => .bl (decide (i < j))) (tVar 9) (tVar 6))) (tVar 9) [9]) tNil)) (tVar 6))) (gName 7))
  (tIfS (tOr (tTest (tOp rNe (tFld K (tMake c.Gap (sp_Gap_init K c) [] E0 (tCons (tVar 6) tNil)) "number") (tVar 6))) (tNot (tB (tCall (sp_law_says K c) [] E0 (tCons (tMeth c.Gap "shows" (sp_Gap_shows K c) [] E0 (tMake c.Gap (sp_Gap_init K c) [] E0 (tCons (tVar 6) tNil)) (tCons (tVar 1) (tCons (tVar 4) tNil))) (tCons (tVar 7) tNil)))))) (tRet (tC (.bl false))) tNext))))
  (tSeq (tIfS (tNot (tB (tCall (sp_law_best_right K c) [] E0 (tCons (tVar 1) (tCons (tVar 4) (tCons (tCall (sp_law_bent K c) [] E0 (tCons (tFld K (tVar 5) "added") (tCons (tOp (rI CDiv fun i j => .int (i / j)) (tVar 3) (tC (.int 3))) tNil))) (tCons (tFld K (tVar 5) "misses") tNil))))))) (tRet (tC (.bl false))) tNext)
  (tSeq (tIfS (tNot (tB (tCall (sp_law_best_right K c) [] E0 (tCons (tVar 1) (tCons (tVar 4) (tCons (tFld K (tVar 5) "added") (tCons (tCall (sp_law_bent K c) [] E0 (tCons (tFld K (tVar 5) "misses") (tCons (tOp (rI CDiv fun i j => .int (i / j)) (tVar 3) (tC (.int 3))) tNil))) tNil))))))) (tRet (tC (.bl false))) tNext)
  (tSeq (tIfS (tNot (tB (tCall (sp_law_best_right K c) [] E0 (tCons (tVar 1) (tCons (tOp (rI0 fun i j => .int (i - j)) (tOp (rI0 fun i j => .int (i + j)) (tVar 4) (tOp (rI (fun _ j => 0 < j) fun i j => .int (i % j)) (tOp (rI CDiv fun i j => .int (i / j)) (tVar 3) (tC (.int 5))) (tC (.int 3)))) (tC (.int 1))) (tCons (tFld K (tVar 5) "added") (tCons (tFld K (tVar 5) "misses") tNil))))))) (tRet (tC (.bl false))) tNext)
  (tSeq (tAsg (tCall (sp_law_bent K c) [] E0 (tCons (tFld K (tVar 5) "misses") (tCons (tOp (rI CDiv fun i j => .int (i / j)) (tVar 3) (tC (.int 5))) tNil))) (gName 8))
  (tIfS (tNot (tB (tCall (sp_law_best_right K c) [] E0 (tCons (tVar 1) (tCons (tVar 4) (tCons (tVar 8) (tCons (tVar 8) tNil))))))) (tRet (tC (.bl false))) tNext))))))))))
  (tRet (tAndV (tCall (sp_law_says K c) [] E0 (tCons (tMeth c.Gap "shows" (sp_Gap_shows K c) [] E0 (tMake c.Gap (sp_Gap_init K c) [] E0 (tCons (tC (.int 7)) tNil)) (tCons (tLst (tCons (tC (.int 1)) (tCons (tC (.int 5)) tNil))) (tCons (tC (.int 9)) tNil))) (tCons (tC (.bl true)) tNil))) (tCall (sp_law_says K c) [] E0 (tCons (tMeth c.Gap "shows" (sp_Gap_shows K c) [] E0 (tMake c.Gap (sp_Gap_init K c) [] E0 (tCons (tC (.int 6)) tNil)) (tCons (tLst (tCons (tC (.int 1)) (tCons (tC (.int 5)) tNil))) (tCons (tC (.int 9)) tNil))) (tCons (tC (.bl false)) tNil))))))))))), (pss_cons (ps_if (pt_not (pt_val (pe_call0 G_law_promises_right.ok (hr.mono (by decide)) (by rfl) G_law_promises_right.g G_law_promises_right.kp G_law_promises_right.b .nil pass0))) (pss_one (ps_ret pe_bl)) pss_nil)
  (pss_cons (ps_set (i := 0) sc_sLaw.nd rfl (Or.inl rfl) (pe_slice sl_list (pv 0) po_none (po_some pe_int)))
  (pss_cons (ps_set (i := 1) sc_sLaw.nd rfl (Or.inl rfl) (pe_call G_law_set.ok (hr.mono (by decide)) (by rfl) G_law_set.g G_law_set.kp G_law_set.b .nil pass0 (pa_cons (pv 0) pa_nil)))
  (Evl.pss_cut (ps_if (pt_cmpR op_eq (pe_op op_mod (pe_callB (cr_sum rfl) (by rfl) T.z_sum bt_sum (pa_cons (pv 0) pa_nil)) pe_int) pe_int (nomark _)) (pss_one (ps_set (i := 1) sc_sLaw.nd rfl (Or.inl rfl) (pe_slice sl_list (pv 1) po_none (po_some pe_int)))) pss_nil)
  (pss_cons (ps_set (i := 2) sc_sLaw.nd rfl (Or.inl rfl) (pe_call G_law_gap.ok (hr.mono (by decide)) (by rfl) G_law_gap.g G_law_gap.kp G_law_gap.b .nil pass0 (pa_cons (pv 1) pa_nil)))
  (pss_cons (ps_for PassesOwn.never rfl (pi_list (pe_op op_cat (pe_slice sl_list (pv 0) po_none (po_some pe_int)) (pe_step (pv 0) (by decide)))) (pg_name (i := 3) sc_sLaw.nd rfl (Or.inl rfl)) (pss_cons (ps_set (i := 4) sc_sLaw.nd rfl (Or.inl rfl) (pe_op op_add (pv 2) (pe_op op_mod (pv 3) pe_int)))
    (pss_cons (ps_set (i := 5) sc_sLaw.nd rfl (Or.inl rfl) (pe_call G_fewest.ok (hr.mono (by decide)) (by rfl) G_fewest.g G_fewest.kp G_fewest.b .nil pass0 (pa_cons (pv 1) (pa_cons (pv 4) pa_nil))))
    (pss_cons (ps_if (PW.pt (pw_or (pt_not (pt_val (pe_call G_law_says.ok (hr.mono (by decide)) (by rfl) G_law_says.g G_law_says.kp G_law_says.b .nil pass0 (pa_cons (pe_meth (pe_make00 Z_All (by rfl)) T.c_All M_All_shows.me M_All_shows.ok (hr.mono (by decide)) M_All_shows.b .nil pass0 (pa_cons (pv 1) (pa_cons (pv 4) pa_nil))) (pa_cons pe_bl pa_nil))))) (pw_or1 (pt_not (pt_val (pe_call G_law_says.ok (hr.mono (by decide)) (by rfl) G_law_says.g G_law_says.kp G_law_says.b .nil pass0 (pa_cons (pe_meth (pe_make00 Z_All (by rfl)) T.c_All M_All_shows.me M_All_shows.ok (hr.mono (by decide)) M_All_shows.b .nil pass0 (pa_cons (pv 1) (pa_cons (pe_op op_mod (pv 3) (pv 2)) pa_nil))) (pa_cons pe_bl pa_nil)))))))) (pss_one (ps_ret pe_bl)) pss_nil)
    (pss_cons (ps_for PassesOwn.never rfl (pi_list (pe_lst (pa_cons (pv 2) (pa_cons (pe_op op_add (pv 2) pe_int) (pa_cons (pe_op op_mod (pv 3) (pe_op op_mulX pe_int (pv 2))) (pa_cons (pe_op op_sub (pe_op op_mod (pe_un un_neg (pv 3)) pe_int) pe_int) (pa_cons (pe_op op_add (pe_callB (cr_sum rfl) (by rfl) T.z_sum bt_sum (pa_cons (pv 1) pa_nil)) pe_int) (pa_cons (pe_callB (cr_sum rfl) (by rfl) T.z_sum bt_sum (pa_cons (pv 1) pa_nil)) (pa_cons (pv 4) (pa_cons pe_int pa_nil)))))))))) (pg_name (i := 6) sc_sLaw.nd rfl (Or.inr rfl)) (pss_cons (ps_set (i := 7) sc_sLaw.nd rfl (Or.inl rfl) (pe_and (pe_chain op_le op_le pe_int (pv 6) (pv 4)) (pe_one (pe_cmpR op_notIn_seq (pv 6) (pv 1) (by rfl)))))
      (pss_cons (ps_set (i := 7) sc_sLaw.nd rfl (Or.inl rfl) (pe_and (pv 7) (pe_one (pe_cmpR op_lt (pe_callB (cr_sum rfl) (by rfl) T.z_sum bt_sum (pa_cons (pe_lc (own := [("_law_weight", 9)]) (g := gName 9) (tt := (tTest (tOp (rI0 fun i j => .bl (decide (i < j))) (tVar 9) (tVar 6)))) (te := (tVar 9)) rfl sc_sLaw.nd (pi_list (pv 1)) (blkOk_by (N := ["_law_script", "_law_weights", "_law_gap_here", "_law_cell", "_law_most", "_law_best", "_law_number", "_law_due_here", "_law_both", "_law_weight"]) (sc := defScope sLaw) (by decide +kernel)) (fun _ _ _ _ _ => (pg_name (i := 9) sc_sLaw.nd rfl (Or.inl rfl))) (fun _ _ _ _ _ => (pts_one (pt_cmpR op_lt (pv 9) (pv 6) (nomark _)))) (fun _ _ _ _ _ => (pv 9))) pa_nil)) (pv 6) (nomark _)))))
      (pss_one (ps_if (PW.pt (pw_or (pt_cmpR op_ne (pe_fld (pe_make G_Gap_init.m G_Gap_init.ok (hr.mono (by decide)) (by rfl) G_Gap_init.g G_Gap_init.b .nil pass0 (pa_cons (pv 6) pa_nil)) rfl) (pv 6) (nomark _)) (pw_or1 (pt_not (pt_val (pe_call G_law_says.ok (hr.mono (by decide)) (by rfl) G_law_says.g G_law_says.kp G_law_says.b .nil pass0 (pa_cons (pe_meth (pe_make G_Gap_init.m G_Gap_init.ok (hr.mono (by decide)) (by rfl) G_Gap_init.g G_Gap_init.b .nil pass0 (pa_cons (pv 6) pa_nil)) T.c_Gap M_Gap_shows.me M_Gap_shows.ok (hr.mono (by decide)) M_Gap_shows.b .nil pass0 (pa_cons (pv 1) (pa_cons (pv 4) pa_nil))) (pa_cons (pv 7) pa_nil)))))))) (pss_one (ps_ret pe_bl)) pss_nil)))))
    (pss_cons (ps_if (pt_not (pt_val (pe_call G_law_best_right.ok (hr.mono (by decide)) (by rfl) G_law_best_right.g G_law_best_right.kp G_law_best_right.b .nil pass0 (pa_cons (pv 1) (pa_cons (pv 4) (pa_cons (pe_call G_law_bent.ok (hr.mono (by decide)) (by rfl) G_law_bent.g G_law_bent.kp G_law_bent.b .nil pass0 (pa_cons (pe_fld (pv 5) rfl) (pa_cons (pe_op op_fdiv (pv 3) pe_int) pa_nil))) (pa_cons (pe_fld (pv 5) rfl) pa_nil))))))) (pss_one (ps_ret pe_bl)) pss_nil)
    (pss_cons (ps_if (pt_not (pt_val (pe_call G_law_best_right.ok (hr.mono (by decide)) (by rfl) G_law_best_right.g G_law_best_right.kp G_law_best_right.b .nil pass0 (pa_cons (pv 1) (pa_cons (pv 4) (pa_cons (pe_fld (pv 5) rfl) (pa_cons (pe_call G_law_bent.ok (hr.mono (by decide)) (by rfl) G_law_bent.g G_law_bent.kp G_law_bent.b .nil pass0 (pa_cons (pe_fld (pv 5) rfl) (pa_cons (pe_op op_fdiv (pv 3) pe_int) pa_nil))) pa_nil))))))) (pss_one (ps_ret pe_bl)) pss_nil)
    (pss_cons (ps_if (pt_not (pt_val (pe_call G_law_best_right.ok (hr.mono (by decide)) (by rfl) G_law_best_right.g G_law_best_right.kp G_law_best_right.b .nil pass0 (pa_cons (pv 1) (pa_cons (pe_op op_sub (pe_op op_add (pv 4) (pe_op op_mod (pe_op op_fdiv (pv 3) pe_int) pe_int)) pe_int) (pa_cons (pe_fld (pv 5) rfl) (pa_cons (pe_fld (pv 5) rfl) pa_nil))))))) (pss_one (ps_ret pe_bl)) pss_nil)
    (pss_cons (ps_set (i := 8) sc_sLaw.nd rfl (Or.inl rfl) (pe_call G_law_bent.ok (hr.mono (by decide)) (by rfl) G_law_bent.g G_law_bent.kp G_law_bent.b .nil pass0 (pa_cons (pe_fld (pv 5) rfl) (pa_cons (pe_op op_fdiv (pv 3) pe_int) pa_nil))))
    (pss_one (ps_if (pt_not (pt_val (pe_call G_law_best_right.ok (hr.mono (by decide)) (by rfl) G_law_best_right.g G_law_best_right.kp G_law_best_right.b .nil pass0 (pa_cons (pv 1) (pa_cons (pv 4) (pa_cons (pv 8) (pa_cons (pv 8) pa_nil))))))) (pss_one (ps_ret pe_bl)) pss_nil)))))))))))
  (pss_one (ps_ret (pe_and (pe_call G_law_says.ok (hr.mono (by decide)) (by rfl) G_law_says.g G_law_says.kp G_law_says.b .nil pass0 (pa_cons (pe_meth (pe_make G_Gap_init.m G_Gap_init.ok (hr.mono (by decide)) (by rfl) G_Gap_init.g G_Gap_init.b .nil pass0 (pa_cons pe_int pa_nil)) T.c_Gap M_Gap_shows.me M_Gap_shows.ok (hr.mono (by decide)) M_Gap_shows.b .nil pass0 (pa_cons (pe_lst (pa_cons pe_int (pa_cons pe_int pa_nil))) (pa_cons pe_int pa_nil))) (pa_cons pe_bl pa_nil))) (pe_one (pe_call G_law_says.ok (hr.mono (by decide)) (by rfl) G_law_says.g G_law_says.kp G_law_says.b .nil pass0 (pa_cons (pe_meth (pe_make G_Gap_init.m G_Gap_init.ok (hr.mono (by decide)) (by rfl) G_Gap_init.g G_Gap_init.b .nil pass0 (pa_cons pe_int pa_nil)) T.c_Gap M_Gap_shows.me M_Gap_shows.ok (hr.mono (by decide)) M_Gap_shows.b .nil pass0 (pa_cons (pe_lst (pa_cons pe_int (pa_cons pe_int pa_nil))) (pa_cons pe_int pa_nil))) (pa_cons pe_bl pa_nil))))))))))))), ?_⟩
    refine w_start (σ := [some _, none, none, none, none, none, none, none, none, none]) rfl ?_
    wtm_at "w"
    refine c_law_promises_right fun H0 s0 => ?_
    wtm_at "w"
    refine v_iff rfl ?_
    wtm_at "w"
    refine v_sliceT (s0.seq hS) (by decide) fun p1 H1 n1 s1 d1 => ?_
    rw [show ns.take (63 : Int).toNat = ns from List.take_of_length_le hz] at d1
    wtm_at "w"
    refine c_law_set (sq_h d1) hz fun ws0 p2 H2 hg0 n2 s2 d2 => ?_
    wtm_at "w"
    refine w_cut (fun σ' H' => ∃ (pw : Addr) (ws : List Int), σ' = [some (.ref p1), some (.ref pw), none, none, none, none, none, none, none, none] ∧ H' p1 = some (.lst (ns.map V.int)) ∧ H' pw = some (.lst (ws.map V.int)) ∧ Good ws) ?_ ?_
    · have f1 := s2 _ _ d1
      wtm_at "w"
      refine v_if (fun hc => ?_) (fun hc => ?_)
      · wtm_at "w"
        refine v_sliceT (sq_h d2) (by decide) fun p3 H3 n3 s3 d3 => ?_
        wtm_at "w"
        exact ⟨p3, _, rfl, s3 _ _ f1, d3, hg0.take _⟩
      · wtm_at "w"
        exact ⟨p2, _, rfl, f1, d2, hg0⟩
    rintro σ' H3 ⟨pw, ws, rfl, f1, f2, hg⟩
    clear d1 d2 n1 n2 s0 s1 s2 hg0
    have hp := hg.pos
    have hl := hg.line
    have hlen := hg.len
    have hfl := hg.fm_lt
    have hfe := hg.fm_le
    have hgp := fm_pos hp
    have hbig := big_NN
    wtm_at "w"
    refine c_law_gap (sq_h f2) fun H4 s4 => ?_
    rw [← fm_lg]
    have g1 := s4 _ _ f1
    have g2 := s4 _ _ f2
    clear f1 f2 s4
    wtm_at "w"
    refine v_sliceT (sq_h g1) (by decide) fun q5 H5 n5 s5 d5 => ?_
    wtm_at "w"
    refine v_step (sq_h (s5 _ _ g1)) fun zs q6 H6 hzs n6 s6 d6 => ?_
    wtm_at "w"
    refine v_cat (s6 _ _ d5) d6 (by rw [List.length_take]; omega) fun q7 H7 n7 s7 d7 => ?_
    have sA := (s5.trans s6).trans s7
    have e2 := sA _ _ g2
    generalize ns.take (4 : Int).toNat ++ zs = cells at d7
    clear g1 g2 n5 s5 d5 n6 s6 d6 n7 s7 sA hzs
    wtm_at "w"
    refine v_forI (ns := cells) (sq_h d7) (fun r σ' H' => ∃ y3 y4 y5 y6 y7 y8 : Option V, σ' = [some (.ref p1), some (.ref pw), some (.int (fm ws)), y3, y4, y5, y6, y7, y8, none] ∧ Same H7 H')
      ⟨_, _, _, _, _, _, rfl, Same.refl _⟩ (fun r σ' H' h => by obtain ⟨_, _, _, _, _, _, _, s⟩ := h; exact s.seq (sq_h d7)) ?_ ?_
    · rintro pre x r σ' H' _ ⟨y3, y4, y5, y6, y7, y8, rfl, sE⟩
      have f2 := sE _ _ e2
      wtm_at "w"
      have hx0 := Int.emod_nonneg x (show (90 : Int) ≠ 0 by decide)
      have hx1 := Int.emod_lt_of_pos x (show (0 : Int) < 90 by decide)
      have hm0 : fm ws ≤ fm ws + x % 90 := by omega
      have hm1 : fm ws + x % 90 < 2 ^ NN := by omega
      generalize fm ws + x % 90 = m at hm0 hm1
      clear hx0 hx1
      refine c_fewest (sq_h f2) hp hl (by omega) hm1 fun o dx l k2 J1 no nl nk ne j1 eo el ek hfw => ?_
      have hf1 := bestF_added l k2
      have hf2 := bestF_misses l k2
      generalize few ws m = fws at el ek hfw
      have g2 := j1 _ _ f2
      clear no nl nk ne
      wtm_at "w"
      refine w_make00 fun o2 dx2 J2 m2 j2 i2 => ?_
      wtm_at "w"
      refine v_meth i2 rfl ?_
      wtm_at "w"
      refine c_All_shows (sq_h (j2 _ _ g2)) fun J3 j3 => ?_
      wtm_at "w"
      refine c_law_says fun J4 j4 => ?_
      wtm_at "w"
      refine v_iff (by rw [decide_eq_false (by omega)]; rfl) ?_
      wtm_at "w"
      refine w_make00 fun o5 dx5 J5 m5 j5 i5 => ?_
      wtm_at "w"
      refine v_meth i5 rfl ?_
      wtm_at "w"
      have jA := ((j2.trans j3).trans j4).trans j5
      refine c_All_shows (sq_h (jA _ _ g2)) fun J6 j6 => ?_
      wtm_at "w"
      refine c_law_says fun J7 j7 => ?_
      wtm_at "w"
      have hcg := Int.emod_lt_of_pos x (show 0 < fm ws by omega)
      refine v_iff (by rw [decide_eq_true hcg]; rfl) ?_
      have jB := (jA.trans j6).trans j7
      have h2 := jB _ _ g2
      have ho := jB _ _ eo
      have hal := jB _ _ el
      have hak := jB _ _ ek
      have sB := (sE.trans j1).trans jB
      clear m2 j2 i2 j3 j4 m5 j5 i5 jA j6 j7 jB g2 eo el ek j1 f2 sE hcg
      wtm_at "w"
      refine v_I (mulx_ok (a := 2) (b := 210) (by decide) hfl (by decide)) ?_
      wtm_at "w"
      refine v_newL (n := 8) (by decide) fun q8 J8 m8 j8 i8 => ?_
      have h2' := j8 _ _ h2
      wtm_at "w"
      refine v_forI (ns := [fm ws, fm ws + 1, x % (2 * fm ws), -x % 9 - 9, ws.sum + 1, ws.sum, m, 0]) (sq_h i8) (fun r σ' H' => ∃ y6 y7 : Option V, σ' = [some (.ref p1), some (.ref pw), some (.int (fm ws)), some (.int x), some (.int m), some (.ref o), y6, y7, y8, none] ∧ Same J8 H')
        ⟨_, _, rfl, Same.refl _⟩ (fun r σ' H' h => by obtain ⟨_, _, _, s⟩ := h; exact s.seq (sq_h i8)) ?_ ?_
      · rintro pre n r σ' H' _ ⟨z6, z7, rfl, sF⟩
        have a2 := sF _ _ h2'
        wtm_at "w"
        refine v_ch (d := decide (n ≤ m)) (fun _ q hq => ?_) ?_
        · wtm_at "w"
          exact hq
        wtm_at "w"
        refine v_andV (d := !decide (n ∈ ws)) (fun _ q hq => ?_) (fun G1 t1 => ?_)
        · wtm_at "w"
          refine v_notIn (sq_h a2) ?_
          exact hq _ (Same.refl _)
        wtm_at "w"
        have b2 := t1 _ _ a2
        refine v_andV (d := decide (slt n ws < n)) (fun _ q hq => ?_) (fun G2 t2 => ?_)
        · wtm_at "w"
          refine v_lcI (σ2 := fun y => [some (.ref p1), some (.ref pw), some (.int (fm ws)), some (.int x), some (.int m), some (.ref o), some (.int n), some (.bl ((decide (1 ≤ n) && decide (n ≤ m)) && !decide (n ∈ ws))), y8, some (.int y)]) (fun y => decide (y < n)) V.int (sq_h b2) hl (fun _ => rfl) (fun _ _ => rfl) (fun y H' hy s R h => ?_) (fun y H' hy _ s R h => ?_) (fun D G2 u2 t2 v2 => ?_)
          · wtm_at "w"
            exact h _ (Same.refl _)
          · wtm_at "w"
            exact h _ (Same.refl _)
          wtm_at "w"
          exact hq _ t2
        rw [gapB_and]
        wtm_at "w"
        refine v_make fun o3 dx3 G3 u3 t3 v3 _ => ?_
        refine c_Gap_init v3 ⟨rfl, ?_⟩
        have t3' : Same G2 (upd G3 o3 (.ins c.Gap dx3 [("number", .int n)])) := same_mut t3 u3
        have v4 : upd G3 o3 (.ins c.Gap dx3 [("number", .int n)]) o3 = some (.ins c.Gap dx3 [("number", .int n)]) := upd_same
        generalize upd G3 o3 (.ins c.Gap dx3 [("number", .int n)]) = G4 at t3' v4
        wtm_at "w"
        refine v_iff (by simp) ?_
        wtm_at "w"
        refine v_make fun o5 dx5 G5 u5 t5 v5 _ => ?_
        refine c_Gap_init v5 ⟨rfl, ?_⟩
        have t5' : Same G4 (upd G5 o5 (.ins c.Gap dx5 [("number", .int n)])) := same_mut t5 u5
        have v6 : upd G5 o5 (.ins c.Gap dx5 [("number", .int n)]) o5 = some (.ins c.Gap dx5 [("number", .int n)]) := upd_same
        generalize upd G5 o5 (.ins c.Gap dx5 [("number", .int n)]) = G6 at t5' v6
        wtm_at "w"
        refine v_meth v6 (lk1n (by decide +kernel)) ?_
        wtm_at "w"
        have tA := (t1.trans t2).trans (t3'.trans t5')
        refine c_Gap_shows v6 (sq_h (tA _ _ a2)) hl fun G7 t7 => ?_
        wtm_at "w"
        refine c_law_says fun G8 t8 => ?_
        wtm_at "w"
        refine v_iff (by rw [beq_self_eq_true]; rfl) ?_
        wtm_at "w"
        exact ⟨_, _, rfl, sF.trans ((tA.trans t7).trans t8)⟩
      · rintro σ' H8 ⟨z6, z7, rfl, sF⟩
        have jC := j8.trans sF
        have g2 := jC _ _ h2
        have go := jC _ _ ho
        have gal := jC _ _ hal
        have gak := jC _ _ hak
        have sC := sB.trans jC
        clear h2 ho hal hak j8 i8 h2' sF jC sB m8
        wtm_at "w"
        refine c_law_bent (sq_h gal) (by omega) fun us u J1 hu m1 j1 i1 => ?_
        wtm_at "w"
        have go1 := j1 _ _ go
        wtm_at "w"
        refine c_law_best_right (j1 _ _ g2) hp i1 (j1 _ _ gak) (by omega) (by omega) (by omega) fun J2 j2 => ?_
        wtm_at "w"
        refine v_iff rfl ?_
        have jA := j1.trans j2
        have g2' := jA _ _ g2
        have go' := jA _ _ go
        have gal' := jA _ _ gal
        have gak' := jA _ _ gak
        have sD := sC.trans jA
        clear g2 go gal gak j1 i1 m1 go1 j2 jA sC us u hu
        wtm_at "w"
        refine c_law_bent (sq_h gak') (by omega) fun us u J1 hu m1 j1 i1 => ?_
        wtm_at "w"
        refine c_law_best_right (j1 _ _ g2') hp (j1 _ _ gal') i1 (by omega) (by omega) (by omega) fun J2 j2 => ?_
        wtm_at "w"
        refine v_iff rfl ?_
        have jA := j1.trans j2
        have g2 := jA _ _ g2'
        have go := jA _ _ go'
        have gal := jA _ _ gal'
        have gak := jA _ _ gak'
        have sC := sD.trans jA
        clear g2' go' gal' gak' j1 i1 m1 j2 jA sD us u hu
        wtm_at "w"
        refine c_law_best_right g2 hp gal gak (by omega) (by omega) (by omega) fun J2 j2 => ?_
        wtm_at "w"
        refine v_iff rfl ?_
        have g2' := j2 _ _ g2
        have go' := j2 _ _ go
        have gak' := j2 _ _ gak
        have sD := sC.trans j2
        clear g2 go gal gak j2 sC
        wtm_at "w"
        refine c_law_bent (sq_h gak') (by omega) fun us u J1 hu m1 j1 i1 => ?_
        wtm_at "w"
        refine c_law_best_right (j1 _ _ g2') hp i1 i1 (by omega) (by omega) (by omega) fun J2 j2 => ?_
        wtm_at "w"
        refine v_iff rfl ?_
        wtm_at "w"
        exact ⟨_, _, _, _, _, _, rfl, sD.trans (j1.trans j2)⟩
    · rintro σ' H' ⟨y3, y4, y5, y6, y7, y8, rfl, sE⟩
      wtm_at "w"
      refine v_make fun o3 dx3 G3 u3 t3 v3 _ => ?_
      refine c_Gap_init v3 ⟨rfl, ?_⟩
      have v4 : upd G3 o3 (.ins c.Gap dx3 [("number", .int 7)]) o3 = some (.ins c.Gap dx3 [("number", .int 7)]) := upd_same
      generalize upd G3 o3 (.ins c.Gap dx3 [("number", .int 7)]) = G4 at v4
      wtm_at "w"
      refine v_meth v4 (lk1n (by decide +kernel)) ?_
      wtm_at "w"
      refine v_newL (n := 2) (by decide) fun q1 J1 m1 j1 i1 => ?_
      wtm_at "w"
      refine c_Gap_shows (ns := [1, 5]) (j1 _ _ v4) (sq_h i1) (by decide) fun J2 j2 => ?_
      wtm_at "w"
      refine c_law_says fun J3 j3 => ?_
      rw [show (gapB [1, 5] 9 7 == true) = true by decide]
      wtm_at "w"
      refine v_andV (d := true) (fun _ q hq => ?_) (fun J5 j5 => k _)
      wtm_at "w"
      refine v_make fun o3 dx3 G3 u3 t3 v3 _ => ?_
      refine c_Gap_init v3 ⟨rfl, ?_⟩
      have t3' : Same J3 (upd G3 o3 (.ins c.Gap dx3 [("number", .int 6)])) := same_mut t3 u3
      have v4 : upd G3 o3 (.ins c.Gap dx3 [("number", .int 6)]) o3 = some (.ins c.Gap dx3 [("number", .int 6)]) := upd_same
      generalize upd G3 o3 (.ins c.Gap dx3 [("number", .int 6)]) = G4 at v4 t3'
      wtm_at "w"
      refine v_meth v4 (lk1n (by decide +kernel)) ?_
      wtm_at "w"
      refine v_newL (n := 2) (by decide) fun q1 J1 m1 j1 i1 => ?_
      wtm_at "w"
      refine c_Gap_shows (ns := [1, 5]) (j1 _ _ v4) (sq_h i1) (by decide) fun J2 j2 => ?_
      wtm_at "w"
      refine c_law_says fun J3 j3 => ?_
      rw [show (gapB [1, 5] 9 6 == false) = true by decide]
      exact hq _ (((t3'.trans j1).trans j2).trans j3)
theorem all_mk {l : PySem.W.OpenLaw} {w : World} {K : PySem.W.Frag} {h : Heap} {mg : Str → Option Value} {fa : Addr} {xAll xGap xBest xAnswer : Addr} (X : K.In h) (G : h.Ns mainGlobals mg) (hfa : mg "law" = some (.ref fa))
    {f0 : Addr} {od0 an0 : Option Addr} {sl0 : Array (Option Value)} {oc0 kV0 dc0 pm0 cd0 ct0 : Value}
    {f1 : Addr} {od1 an1 : Option Addr} {sl1 : Array (Option Value)} {oc1 kV1 dc1 pm1 cd1 ct1 : Value}
    {f2 : Addr} {od2 an2 : Option Addr} {sl2 : Array (Option Value)} {oc2 kV2 dc2 pm2 cd2 ct2 : Value}
    {f3 : Addr} {od3 an3 : Option Addr} {sl3 : Array (Option Value)} {oc3 kV3 dc3 pm3 cd3 ct3 : Value}
    {f4 : Addr} {od4 an4 : Option Addr} {sl4 : Array (Option Value)} {oc4 kV4 dc4 pm4 cd4 ct4 : Value}
    {f5 : Addr} {od5 an5 : Option Addr} {sl5 : Array (Option Value)} {oc5 kV5 dc5 pm5 cd5 ct5 : Value}
    {f6 : Addr} {od6 an6 : Option Addr} {sl6 : Array (Option Value)} {oc6 kV6 dc6 pm6 cd6 ct6 : Value}
    {f7 : Addr} {od7 an7 : Option Addr} {sl7 : Array (Option Value)} {oc7 kV7 dc7 pm7 cd7 ct7 : Value}
    {f8 : Addr} {od8 an8 : Option Addr} {sl8 : Array (Option Value)} {oc8 kV8 dc8 pm8 cd8 ct8 : Value}
    {f9 : Addr} {od9 an9 : Option Addr} {sl9 : Array (Option Value)} {oc9 kV9 dc9 pm9 cd9 ct9 : Value}
    {f10 : Addr} {od10 an10 : Option Addr} {sl10 : Array (Option Value)} {oc10 kV10 dc10 pm10 cd10 ct10 : Value}
    {f11 : Addr} {od11 an11 : Option Addr} {sl11 : Array (Option Value)} {oc11 kV11 dc11 pm11 cd11 ct11 : Value}
    {f12 : Addr} {od12 an12 : Option Addr} {sl12 : Array (Option Value)} {oc12 kV12 dc12 pm12 cd12 ct12 : Value}
    {f13 : Addr} {od13 an13 : Option Addr} {sl13 : Array (Option Value)} {oc13 kV13 dc13 pm13 cd13 ct13 : Value}
    {f14 : Addr} {od14 an14 : Option Addr} {sl14 : Array (Option Value)} {oc14 kV14 dc14 pm14 cd14 ct14 : Value}
    {f15 : Addr} {od15 an15 : Option Addr} {sl15 : Array (Option Value)} {oc15 kV15 dc15 pm15 cd15 ct15 : Value}
    {f16 : Addr} {od16 an16 : Option Addr} {sl16 : Array (Option Value)} {oc16 kV16 dc16 pm16 cd16 ct16 : Value}
    {f17 : Addr} {od17 an17 : Option Addr} {sl17 : Array (Option Value)} {oc17 kV17 dc17 pm17 cd17 ct17 : Value}
    {f18 : Addr} {od18 an18 : Option Addr} {sl18 : Array (Option Value)} {oc18 kV18 dc18 pm18 cd18 ct18 : Value}
    {f19 : Addr} {od19 an19 : Option Addr} {sl19 : Array (Option Value)} {oc19 kV19 dc19 pm19 cd19 ct19 : Value}
    {f20 : Addr} {od20 an20 : Option Addr} {sl20 : Array (Option Value)} {oc20 kV20 dc20 pm20 cd20 ct20 : Value}
    {f21 : Addr} {od21 an21 : Option Addr} {sl21 : Array (Option Value)} {oc21 kV21 dc21 pm21 cd21 ct21 : Value}
    {f22 : Addr} {od22 an22 : Option Addr} {sl22 : Array (Option Value)} {oc22 kV22 dc22 pm22 cd22 ct22 : Value}
    {f23 : Addr} {od23 an23 : Option Addr} {sl23 : Array (Option Value)} {oc23 kV23 dc23 pm23 cd23 ct23 : Value}
    (gAll : PySem.W.nsIn K mainGlobals "All" = some (some (.ref xAll)))
    (gGap : PySem.W.nsIn K mainGlobals "Gap" = some (some (.ref xGap)))
    (gBest : PySem.W.nsIn K mainGlobals "Best" = some (some (.ref xBest)))
    (gAnswer : PySem.W.nsIn K mainGlobals "Answer" = some (some (.ref xAnswer)))
    (a0 : PySem.W.nsIn K mainGlobals "is_number" = some (some (.ref f0)))
    (l0 : K.lookup f0 = some ⟨oc0, od0, .func (PySem.W.fnOf "is_number" "is_number" (defArgs sIsNumber) (defBody sIsNumber) (defScope sIsNumber) .none kV0 dc0 pm0 an0 cd0 ct0), sl0⟩) (c0 : PySem.W.codeIn K cd0 "is_number" = true) (k0 : PySem.W.keepIn K (.ref f0) = true)
    (a1 : PySem.W.nsIn K mainGlobals "asked_set" = some (some (.ref f1)))
    (l1 : K.lookup f1 = some ⟨oc1, od1, .func (PySem.W.fnOf "asked_set" "asked_set" (defArgs sAskedSet) (defBody sAskedSet) (defScope sAskedSet) .none kV1 dc1 pm1 an1 cd1 ct1), sl1⟩) (c1 : PySem.W.codeIn K cd1 "asked_set" = true) (k1 : PySem.W.keepIn K (.ref f1) = true)
    (a2 : PySem.W.nsIn K mainGlobals "first_missing" = some (some (.ref f2)))
    (l2 : K.lookup f2 = some ⟨oc2, od2, .func (PySem.W.fnOf "first_missing" "first_missing" (defArgs sFirstMissing) (defBody sFirstMissing) (defScope sFirstMissing) .none kV2 dc2 pm2 an2 cd2 ct2), sl2⟩) (c2 : PySem.W.codeIn K cd2 "first_missing" = true) (k2 : PySem.W.keepIn K (.ref f2) = true)
    (a3 : PySem.W.nsIn K mainGlobals "lighter" = some (some (.ref f3)))
    (l3 : K.lookup f3 = some ⟨oc3, od3, .func (PySem.W.fnOf "lighter" "lighter" (defArgs sLighter) (defBody sLighter) (defScope sLighter) .none kV3 dc3 pm3 an3 cd3 ct3), sl3⟩) (c3 : PySem.W.codeIn K cd3 "lighter" = true) (k3 : PySem.W.keepIn K (.ref f3) = true)
    (a4 : PySem.W.nsIn K mainGlobals "first_gap" = some (some (.ref f4)))
    (l4 : K.lookup f4 = some ⟨oc4, od4, .func (PySem.W.fnOf "first_gap" "first_gap" (defArgs sFirstGap) (defBody sFirstGap) (defScope sFirstGap) .none kV4 dc4 pm4 an4 cd4 ct4), sl4⟩) (c4 : PySem.W.codeIn K cd4 "first_gap" = true) (k4 : PySem.W.keepIn K (.ref f4) = true)
    (a5 : PySem.W.nsIn K mainGlobals "weighing" = some (some (.ref f5)))
    (l5 : K.lookup f5 = some ⟨oc5, od5, .func (PySem.W.fnOf "weighing" "weighing" (defArgs sWeighing) (defBody sWeighing) (defScope sWeighing) .none kV5 dc5 pm5 an5 cd5 ct5), sl5⟩) (c5 : PySem.W.codeIn K cd5 "weighing" = true) (k5 : PySem.W.keepIn K (.ref f5) = true)
    (a6 : PySem.W.nsIn K mainGlobals "without" = some (some (.ref f6)))
    (l6 : K.lookup f6 = some ⟨oc6, od6, .func (PySem.W.fnOf "without" "without" (defArgs sWithout) (defBody sWithout) (defScope sWithout) .none kV6 dc6 pm6 an6 cd6 ct6), sl6⟩) (c6 : PySem.W.codeIn K cd6 "without" = true) (k6 : PySem.W.keepIn K (.ref f6) = true)
    (a7 : PySem.W.findIn K (.ref xAll) "shows" = some (some (.ref f7))) (i7 : PySem.W.isFn K (.ref f7) = true)
    (l7 : K.lookup f7 = some ⟨oc7, od7, .func (PySem.W.fnOf "shows" "All.shows" (defArgs sAllShows) (defBody sAllShows) (defScope sAllShows) .none kV7 dc7 pm7 an7 cd7 ct7), sl7⟩) (c7 : PySem.W.codeIn K cd7 "All.shows" = true) (k7 : PySem.W.keepIn K (.ref f7) = true)
    (a8 : PySem.W.findIn K (.ref xGap) "__init__" = some (some (.ref f8))) (i8 : PySem.W.isFn K (.ref f8) = true)
    (l8 : K.lookup f8 = some ⟨oc8, od8, .func (PySem.W.fnOf "__init__" "Gap.__init__" (defArgs sGapInit) (defBody sGapInit) (defScope sGapInit) .none kV8 dc8 pm8 an8 cd8 ct8), sl8⟩) (c8 : PySem.W.codeIn K cd8 "Gap.__init__" = true) (k8 : PySem.W.keepIn K (.ref f8) = true)
    (a9 : PySem.W.findIn K (.ref xGap) "shows" = some (some (.ref f9))) (i9 : PySem.W.isFn K (.ref f9) = true)
    (l9 : K.lookup f9 = some ⟨oc9, od9, .func (PySem.W.fnOf "shows" "Gap.shows" (defArgs sGapShows) (defBody sGapShows) (defScope sGapShows) .none kV9 dc9 pm9 an9 cd9 ct9), sl9⟩) (c9 : PySem.W.codeIn K cd9 "Gap.shows" = true) (k9 : PySem.W.keepIn K (.ref f9) = true)
    (a10 : PySem.W.findIn K (.ref xBest) "__init__" = some (some (.ref f10))) (i10 : PySem.W.isFn K (.ref f10) = true)
    (l10 : K.lookup f10 = some ⟨oc10, od10, .func (PySem.W.fnOf "__init__" "Best.__init__" (defArgs sBestInit) (defBody sBestInit) (defScope sBestInit) .none kV10 dc10 pm10 an10 cd10 ct10), sl10⟩) (c10 : PySem.W.codeIn K cd10 "Best.__init__" = true) (k10 : PySem.W.keepIn K (.ref f10) = true)
    (a11 : PySem.W.findIn K (.ref xBest) "shows" = some (some (.ref f11))) (i11 : PySem.W.isFn K (.ref f11) = true)
    (l11 : K.lookup f11 = some ⟨oc11, od11, .func (PySem.W.fnOf "shows" "Best.shows" (defArgs sBestShows) (defBody sBestShows) (defScope sBestShows) .none kV11 dc11 pm11 an11 cd11 ct11), sl11⟩) (c11 : PySem.W.codeIn K cd11 "Best.shows" = true) (k11 : PySem.W.keepIn K (.ref f11) = true)
    (a12 : PySem.W.nsIn K mainGlobals "asked_most" = some (some (.ref f12)))
    (l12 : K.lookup f12 = some ⟨oc12, od12, .func (PySem.W.fnOf "asked_most" "asked_most" (defArgs sAskedMost) (defBody sAskedMost) (defScope sAskedMost) .none kV12 dc12 pm12 an12 cd12 ct12), sl12⟩) (c12 : PySem.W.codeIn K cd12 "asked_most" = true) (k12 : PySem.W.keepIn K (.ref f12) = true)
    (a13 : PySem.W.nsIn K mainGlobals "told" = some (some (.ref f13)))
    (l13 : K.lookup f13 = some ⟨oc13, od13, .func (PySem.W.fnOf "told" "told" (defArgs sTold) (defBody sTold) (defScope sTold) .none kV13 dc13 pm13 an13 cd13 ct13), sl13⟩) (c13 : PySem.W.codeIn K cd13 "told" = true) (k13 : PySem.W.keepIn K (.ref f13) = true)
    (a14 : PySem.W.nsIn K mainGlobals "fewest" = some (some (.ref f14)))
    (l14 : K.lookup f14 = some ⟨oc14, od14, .func (PySem.W.fnOf "fewest" "fewest" (defArgs sFewest) (defBody sFewest) (defScope sFewest) .none kV14 dc14 pm14 an14 cd14 ct14), sl14⟩) (c14 : PySem.W.codeIn K cd14 "fewest" = true) (k14 : PySem.W.keepIn K (.ref f14) = true)
    (a15 : PySem.W.nsIn K mainGlobals "_law_set" = some (some (.ref f15)))
    (l15 : K.lookup f15 = some ⟨oc15, od15, .func (PySem.W.fnOf "_law_set" "_law_set" (defArgs sLawSet) (defBody sLawSet) (defScope sLawSet) .none kV15 dc15 pm15 an15 cd15 ct15), sl15⟩) (c15 : PySem.W.codeIn K cd15 "_law_set" = true) (k15 : PySem.W.keepIn K (.ref f15) = true)
    (a16 : PySem.W.nsIn K mainGlobals "_law_gap" = some (some (.ref f16)))
    (l16 : K.lookup f16 = some ⟨oc16, od16, .func (PySem.W.fnOf "_law_gap" "_law_gap" (defArgs sLawGap) (defBody sLawGap) (defScope sLawGap) .none kV16 dc16 pm16 an16 cd16 ct16), sl16⟩) (c16 : PySem.W.codeIn K cd16 "_law_gap" = true) (k16 : PySem.W.keepIn K (.ref f16) = true)
    (a17 : PySem.W.nsIn K mainGlobals "_law_due" = some (some (.ref f17)))
    (l17 : K.lookup f17 = some ⟨oc17, od17, .func (PySem.W.fnOf "_law_due" "_law_due" (defArgs sLawDue) (defBody sLawDue) (defScope sLawDue) .none kV17 dc17 pm17 an17 cd17 ct17), sl17⟩) (c17 : PySem.W.codeIn K cd17 "_law_due" = true) (k17 : PySem.W.keepIn K (.ref f17) = true)
    (a18 : PySem.W.nsIn K mainGlobals "_law_says" = some (some (.ref f18)))
    (l18 : K.lookup f18 = some ⟨oc18, od18, .func (PySem.W.fnOf "_law_says" "_law_says" (defArgs sLawSays) (defBody sLawSays) (defScope sLawSays) .none kV18 dc18 pm18 an18 cd18 ct18), sl18⟩) (c18 : PySem.W.codeIn K cd18 "_law_says" = true) (k18 : PySem.W.keepIn K (.ref f18) = true)
    (a19 : PySem.W.nsIn K mainGlobals "_law_bent" = some (some (.ref f19)))
    (l19 : K.lookup f19 = some ⟨oc19, od19, .func (PySem.W.fnOf "_law_bent" "_law_bent" (defArgs sLawBent) (defBody sLawBent) (defScope sLawBent) .none kV19 dc19 pm19 an19 cd19 ct19), sl19⟩) (c19 : PySem.W.codeIn K cd19 "_law_bent" = true) (k19 : PySem.W.keepIn K (.ref f19) = true)
    (a20 : PySem.W.nsIn K mainGlobals "_law_best_right" = some (some (.ref f20)))
    (l20 : K.lookup f20 = some ⟨oc20, od20, .func (PySem.W.fnOf "_law_best_right" "_law_best_right" (defArgs sLawBestRight) (defBody sLawBestRight) (defScope sLawBestRight) .none kV20 dc20 pm20 an20 cd20 ct20), sl20⟩) (c20 : PySem.W.codeIn K cd20 "_law_best_right" = true) (k20 : PySem.W.keepIn K (.ref f20) = true)
    (a21 : PySem.W.nsIn K mainGlobals "_law_promises_right" = some (some (.ref f21)))
    (l21 : K.lookup f21 = some ⟨oc21, od21, .func (PySem.W.fnOf "_law_promises_right" "_law_promises_right" (defArgs sLawPromisesRight) (defBody sLawPromisesRight) (defScope sLawPromisesRight) .none kV21 dc21 pm21 an21 cd21 ct21), sl21⟩) (c21 : PySem.W.codeIn K cd21 "_law_promises_right" = true) (k21 : PySem.W.keepIn K (.ref f21) = true)
    (a22 : PySem.W.nsIn K mainGlobals "_law_fewest_promises" = some (some (.ref f22)))
    (l22 : K.lookup f22 = some ⟨oc22, od22, .func (PySem.W.fnOf "_law_fewest_promises" "_law_fewest_promises" (defArgs sLawFewestPromises) (defBody sLawFewestPromises) (defScope sLawFewestPromises) .none kV22 dc22 pm22 an22 cd22 ct22), sl22⟩) (c22 : PySem.W.codeIn K cd22 "_law_fewest_promises" = true) (k22 : PySem.W.keepIn K (.ref f22) = true)
    (a23 : PySem.W.nsIn K mainGlobals "law" = some (some (.ref f23)))
    (l23 : K.lookup f23 = some ⟨oc23, od23, .func (PySem.W.fnOf "law" "law" (defArgs sLaw) (defBody sLaw) (defScope sLaw) .none kV23 dc23 pm23 an23 cd23 ct23), sl23⟩) (c23 : PySem.W.codeIn K cd23 "law" = true) (k23 : PySem.W.keepIn K (.ref f23) = true)
    (pgAll : PySem.W.plainGet K xAll Str.empty = true) (hdAll : PySem.W.hasDictIn K xAll = true) (poAll : PySem.W.plainOver K xAll = true) (saAll : PySem.W.findIn K (.ref xAll) "__setattr__" = some (some (.builtin "object.__setattr__"))) (mkAll : PySem.W.makesIn K xAll = true) (kcAll : PySem.W.keepIn K (.ref xAll) = true)
    (icAll : PySem.W.findIn K (.ref xAll) "__class__" = some (some (.builtin "object.__class__"))) (omAll : PySem.W.mroIn K xAll (.type "object") = some true)
    (ktAllAll : PySem.W.subIn K (.ref xAll) (.ref xAll) = some true)
    (ktAllGap : PySem.W.subIn K (.ref xAll) (.ref xGap) = some false)
    (ktAllBest : PySem.W.subIn K (.ref xAll) (.ref xBest) = some false)
    (ktAllAnswer : PySem.W.subIn K (.ref xAll) (.ref xAnswer) = some true)
    (inAll : PySem.W.findIn K (.ref xAll) "__init__" = some (some (.builtin "object.__init__")))
    (pgGap : PySem.W.plainGet K xGap Str.empty = true) (hdGap : PySem.W.hasDictIn K xGap = true) (poGap : PySem.W.plainOver K xGap = true) (saGap : PySem.W.findIn K (.ref xGap) "__setattr__" = some (some (.builtin "object.__setattr__"))) (mkGap : PySem.W.makesIn K xGap = true) (kcGap : PySem.W.keepIn K (.ref xGap) = true)
    (nGapnumber : PySem.W.findIn K (.ref xGap) "number" = some none)
    (icGap : PySem.W.findIn K (.ref xGap) "__class__" = some (some (.builtin "object.__class__"))) (omGap : PySem.W.mroIn K xGap (.type "object") = some true)
    (ktGapAll : PySem.W.subIn K (.ref xGap) (.ref xAll) = some false)
    (ktGapGap : PySem.W.subIn K (.ref xGap) (.ref xGap) = some true)
    (ktGapBest : PySem.W.subIn K (.ref xGap) (.ref xBest) = some false)
    (ktGapAnswer : PySem.W.subIn K (.ref xGap) (.ref xAnswer) = some true)
    (pgBest : PySem.W.plainGet K xBest Str.empty = true) (hdBest : PySem.W.hasDictIn K xBest = true) (poBest : PySem.W.plainOver K xBest = true) (saBest : PySem.W.findIn K (.ref xBest) "__setattr__" = some (some (.builtin "object.__setattr__"))) (mkBest : PySem.W.makesIn K xBest = true) (kcBest : PySem.W.keepIn K (.ref xBest) = true)
    (nBestadded : PySem.W.findIn K (.ref xBest) "added" = some none)
    (nBestmisses : PySem.W.findIn K (.ref xBest) "misses" = some none)
    (icBest : PySem.W.findIn K (.ref xBest) "__class__" = some (some (.builtin "object.__class__"))) (omBest : PySem.W.mroIn K xBest (.type "object") = some true)
    (ktBestAll : PySem.W.subIn K (.ref xBest) (.ref xAll) = some false)
    (ktBestGap : PySem.W.subIn K (.ref xBest) (.ref xGap) = some false)
    (ktBestBest : PySem.W.subIn K (.ref xBest) (.ref xBest) = some true)
    (ktBestAnswer : PySem.W.subIn K (.ref xBest) (.ref xAnswer) = some true)
    (qcAll : PySem.W.isClsIn K xAll = true) (qtAll : PySem.W.typeIn K (.ref xAll) = some (.type "type")) (qsAll : PySem.W.subIn K (.ref xAll) (.ref xAll) = some true)
    (qcGap : PySem.W.isClsIn K xGap = true) (qtGap : PySem.W.typeIn K (.ref xGap) = some (.type "type")) (qsGap : PySem.W.subIn K (.ref xGap) (.ref xGap) = some true)
    (qcBest : PySem.W.isClsIn K xBest = true) (qtBest : PySem.W.typeIn K (.ref xBest) = some (.type "type")) (qsBest : PySem.W.subIn K (.ref xBest) (.ref xBest) = some true)
    (qcAnswer : PySem.W.isClsIn K xAnswer = true) (qtAnswer : PySem.W.typeIn K (.ref xAnswer) = some (.type "type")) (qsAnswer : PySem.W.subIn K (.ref xAnswer) (.ref xAnswer) = some true)
    (dsp : PySem.W.specialIn K (.builtin "object.__class__") "__get__" = some (some (.builtin "getset_descriptor.__get__"))) (tks : PySem.W.takesIn K (.builtin "object.__class__") = some true)
    (zall : PySem.W.nsIn K mainGlobals "all" = some none)
    (zany : PySem.W.nsIn K mainGlobals "any" = some none)
    (zbool : PySem.W.nsIn K mainGlobals "bool" = some none)
    (zenumerate : PySem.W.nsIn K mainGlobals "enumerate" = some none)
    (zint : PySem.W.nsIn K mainGlobals "int" = some none)
    (zisinstance : PySem.W.nsIn K mainGlobals "isinstance" = some none)
    (zlen : PySem.W.nsIn K mainGlobals "len" = some none)
    (zlist : PySem.W.nsIn K mainGlobals "list" = some none)
    (zrange : PySem.W.nsIn K mainGlobals "range" = some none)
    (zsorted : PySem.W.nsIn K mainGlobals "sorted" = some none)
    (zsum : PySem.W.nsIn K mainGlobals "sum" = some none)
    (zzip : PySem.W.nsIn K mainGlobals "zip" = some none)
    : ∃ fd : FuncData, (∀ (s : Shared) (v : Value), BindsTo s fd ⟨[v], []⟩ [("_law_script", v)]) ∧ ∀ base : Heap, K.In base → base.Ns mainGlobals mg → FnOk l.prog w K mg base CX0 6 fa fd ["_law_script"] (sp_law K) := by
  have e := hfa.symm.trans (PySem.W.mg_of X G a23)
  cases e
  have T : Tx K mg (⟨0, 0, 0, 0, xAnswer, xAll, xGap, xBest⟩ : Ca) := {
    z_all := PySem.W.mg_none_of X G zall,
    z_any := PySem.W.mg_none_of X G zany,
    z_bool := PySem.W.mg_none_of X G zbool,
    z_enumerate := PySem.W.mg_none_of X G zenumerate,
    z_int := PySem.W.mg_none_of X G zint,
    z_isinstance := PySem.W.mg_none_of X G zisinstance,
    z_len := PySem.W.mg_none_of X G zlen,
    z_list := PySem.W.mg_none_of X G zlist,
    z_range := PySem.W.mg_none_of X G zrange,
    z_sorted := PySem.W.mg_none_of X G zsorted,
    z_sum := PySem.W.mg_none_of X G zsum,
    z_zip := PySem.W.mg_none_of X G zzip,
    g_All := PySem.W.mg_of X G gAll,
    g_Gap := PySem.W.mg_of X G gGap,
    g_Best := PySem.W.mg_of X G gBest,
    g_Answer := PySem.W.mg_of X G gAnswer,
    c_All := ⟨pgAll, hdAll, poAll, saAll⟩,
    i_All := icAll,
    o_All := omAll,
    k_All_All := kit_of qcAll qtAll ktAllAll qsAll,
    k_All_Gap := kit_of qcGap qtGap ktAllGap qsGap,
    k_All_Best := kit_of qcBest qtBest ktAllBest qsBest,
    k_All_Answer := kit_of qcAnswer qtAnswer ktAllAnswer qsAnswer,
    c_Gap := ⟨pgGap, hdGap, poGap, saGap⟩,
    n_Gap_number := nGapnumber,
    i_Gap := icGap,
    o_Gap := omGap,
    k_Gap_All := kit_of qcAll qtAll ktGapAll qsAll,
    k_Gap_Gap := kit_of qcGap qtGap ktGapGap qsGap,
    k_Gap_Best := kit_of qcBest qtBest ktGapBest qsBest,
    k_Gap_Answer := kit_of qcAnswer qtAnswer ktGapAnswer qsAnswer,
    c_Best := ⟨pgBest, hdBest, poBest, saBest⟩,
    n_Best_added := nBestadded,
    n_Best_misses := nBestmisses,
    i_Best := icBest,
    o_Best := omBest,
    k_Best_All := kit_of qcAll qtAll ktBestAll qsAll,
    k_Best_Gap := kit_of qcGap qtGap ktBestGap qsGap,
    k_Best_Best := kit_of qcBest qtBest ktBestBest qsBest,
    k_Best_Answer := kit_of qcAnswer qtAnswer ktBestAnswer qsAnswer,
    dsp := dsp,
    tks := tks }
  have F0 := fun_mk (st := sIsNumber) l0 c0 k0
  have b0 := F0.binds (ps := ["thing", "least"]) fun _ _ _ _ _ _ us hl => match us, hl with | [_, _], _ => rfl
  have A0 : At K mg "is_number" sIsNumber ["thing", "least"] f0 _ := ⟨PySem.W.mg_of X G a0, F0, b0⟩
  have F1 := fun_mk (st := sAskedSet) l1 c1 k1
  have b1 := F1.binds (ps := ["weights"]) fun _ _ _ _ _ _ us hl => match us, hl with | [_], _ => rfl
  have A1 : At K mg "asked_set" sAskedSet ["weights"] f1 _ := ⟨PySem.W.mg_of X G a1, F1, b1⟩
  have F2 := fun_mk (st := sFirstMissing) l2 c2 k2
  have b2 := F2.binds (ps := ["weights"]) fun _ _ _ _ _ _ us hl => match us, hl with | [_], _ => rfl
  have A2 : At K mg "first_missing" sFirstMissing ["weights"] f2 _ := ⟨PySem.W.mg_of X G a2, F2, b2⟩
  have F3 := fun_mk (st := sLighter) l3 c3 k3
  have b3 := F3.binds (ps := ["weights", "number"]) fun _ _ _ _ _ _ us hl => match us, hl with | [_, _], _ => rfl
  have A3 : At K mg "lighter" sLighter ["weights", "number"] f3 _ := ⟨PySem.W.mg_of X G a3, F3, b3⟩
  have F4 := fun_mk (st := sFirstGap) l4 c4 k4
  have b4 := F4.binds (ps := ["weights"]) fun _ _ _ _ _ _ us hl => match us, hl with | [_], _ => rfl
  have A4 : At K mg "first_gap" sFirstGap ["weights"] f4 _ := ⟨PySem.W.mg_of X G a4, F4, b4⟩
  have F5 := fun_mk (st := sWeighing) l5 c5 k5
  have b5 := F5.binds (ps := ["weights", "number"]) fun _ _ _ _ _ _ us hl => match us, hl with | [_, _], _ => rfl
  have A5 : At K mg "weighing" sWeighing ["weights", "number"] f5 _ := ⟨PySem.W.mg_of X G a5, F5, b5⟩
  have F6 := fun_mk (st := sWithout) l6 c6 k6
  have b6 := F6.binds (ps := ["weights", "place"]) fun _ _ _ _ _ _ us hl => match us, hl with | [_, _], _ => rfl
  have A6 : At K mg "without" sWithout ["weights", "place"] f6 _ := ⟨PySem.W.mg_of X G a6, F6, b6⟩
  have F7 := fun_mk (st := sAllShows) l7 c7 k7
  have b7 := F7.binds (ps := ["self", "weights", "most"]) fun _ _ _ _ _ _ us hl => match us, hl with | [_, _, _], _ => rfl
  have A7 : AtM K xAll "shows" "All.shows" sAllShows ["self", "weights", "most"] f7 _ := ⟨⟨a7, i7, k7⟩, F7, b7⟩
  have F8 := fun_mk (st := sGapInit) l8 c8 k8
  have b8 := F8.binds (ps := ["self", "number"]) fun _ _ _ _ _ _ us hl => match us, hl with | [_, _], _ => rfl
  have A8 : AtI K mg xGap "Gap" "Gap.__init__" sGapInit ["self", "number"] f8 _ := ⟨PySem.W.mg_of X G gGap, ⟨mkGap, a8, i8, kcGap⟩, F8, b8⟩
  have F9 := fun_mk (st := sGapShows) l9 c9 k9
  have b9 := F9.binds (ps := ["self", "weights", "most"]) fun _ _ _ _ _ _ us hl => match us, hl with | [_, _, _], _ => rfl
  have A9 : AtM K xGap "shows" "Gap.shows" sGapShows ["self", "weights", "most"] f9 _ := ⟨⟨a9, i9, k9⟩, F9, b9⟩
  have F10 := fun_mk (st := sBestInit) l10 c10 k10
  have b10 := F10.binds (ps := ["self", "added", "misses"]) fun _ _ _ _ _ _ us hl => match us, hl with | [_, _, _], _ => rfl
  have A10 : AtI K mg xBest "Best" "Best.__init__" sBestInit ["self", "added", "misses"] f10 _ := ⟨PySem.W.mg_of X G gBest, ⟨mkBest, a10, i10, kcBest⟩, F10, b10⟩
  have F11 := fun_mk (st := sBestShows) l11 c11 k11
  have b11 := F11.binds (ps := ["self", "weights", "most"]) fun _ _ _ _ _ _ us hl => match us, hl with | [_, _, _], _ => rfl
  have A11 : AtM K xBest "shows" "Best.shows" sBestShows ["self", "weights", "most"] f11 _ := ⟨⟨a11, i11, k11⟩, F11, b11⟩
  have F12 := fun_mk (st := sAskedMost) l12 c12 k12
  have b12 := F12.binds (ps := ["most"]) fun _ _ _ _ _ _ us hl => match us, hl with | [_], _ => rfl
  have A12 : At K mg "asked_most" sAskedMost ["most"] f12 _ := ⟨PySem.W.mg_of X G a12, F12, b12⟩
  have F13 := fun_mk (st := sTold) l13 c13 k13
  have b13 := F13.binds (ps := ["weights", "most"]) fun _ _ _ _ _ _ us hl => match us, hl with | [_, _], _ => rfl
  have A13 : At K mg "told" sTold ["weights", "most"] f13 _ := ⟨PySem.W.mg_of X G a13, F13, b13⟩
  have F14 := fun_mk (st := sFewest) l14 c14 k14
  have b14 := F14.binds (ps := ["weights", "most"]) fun _ _ _ _ _ _ us hl => match us, hl with | [_, _], _ => rfl
  have A14 : At K mg "fewest" sFewest ["weights", "most"] f14 _ := ⟨PySem.W.mg_of X G a14, F14, b14⟩
  have F15 := fun_mk (st := sLawSet) l15 c15 k15
  have b15 := F15.binds (ps := ["_law_script"]) fun _ _ _ _ _ _ us hl => match us, hl with | [_], _ => rfl
  have A15 : At K mg "_law_set" sLawSet ["_law_script"] f15 _ := ⟨PySem.W.mg_of X G a15, F15, b15⟩
  have F16 := fun_mk (st := sLawGap) l16 c16 k16
  have b16 := F16.binds (ps := ["_law_weights"]) fun _ _ _ _ _ _ us hl => match us, hl with | [_], _ => rfl
  have A16 : At K mg "_law_gap" sLawGap ["_law_weights"] f16 _ := ⟨PySem.W.mg_of X G a16, F16, b16⟩
  have F17 := fun_mk (st := sLawDue) l17 c17 k17
  have b17 := F17.binds (ps := ["_law_weights", "_law_most", "_law_added", "_law_misses"]) fun _ _ _ _ _ _ us hl => match us, hl with | [_, _, _, _], _ => rfl
  have A17 : At K mg "_law_due" sLawDue ["_law_weights", "_law_most", "_law_added", "_law_misses"] f17 _ := ⟨PySem.W.mg_of X G a17, F17, b17⟩
  have F18 := fun_mk (st := sLawSays) l18 c18 k18
  have b18 := F18.binds (ps := ["_law_said", "_law_due_here"]) fun _ _ _ _ _ _ us hl => match us, hl with | [_, _], _ => rfl
  have A18 : At K mg "_law_says" sLawSays ["_law_said", "_law_due_here"] f18 _ := ⟨PySem.W.mg_of X G a18, F18, b18⟩
  have F19 := fun_mk (st := sLawBent) l19 c19 k19
  have b19 := F19.binds (ps := ["_law_some", "_law_cell"]) fun _ _ _ _ _ _ us hl => match us, hl with | [_, _], _ => rfl
  have A19 : At K mg "_law_bent" sLawBent ["_law_some", "_law_cell"] f19 _ := ⟨PySem.W.mg_of X G a19, F19, b19⟩
  have F20 := fun_mk (st := sLawBestRight) l20 c20 k20
  have b20 := F20.binds (ps := ["_law_weights", "_law_most", "_law_added", "_law_misses"]) fun _ _ _ _ _ _ us hl => match us, hl with | [_, _, _, _], _ => rfl
  have A20 : At K mg "_law_best_right" sLawBestRight ["_law_weights", "_law_most", "_law_added", "_law_misses"] f20 _ := ⟨PySem.W.mg_of X G a20, F20, b20⟩
  have F21 := fun_mk (st := sLawPromisesRight) l21 c21 k21
  have b21 := F21.binds (ps := []) fun _ _ _ _ _ _ us hl => match us, hl with | [], _ => rfl
  have A21 : At K mg "_law_promises_right" sLawPromisesRight [] f21 _ := ⟨PySem.W.mg_of X G a21, F21, b21⟩
  have F22 := fun_mk (st := sLawFewestPromises) l22 c22 k22
  have b22 := F22.binds (ps := ["_law_great"]) fun _ _ _ _ _ _ us hl => match us, hl with | [_], _ => rfl
  have A22 : At K mg "_law_fewest_promises" sLawFewestPromises ["_law_great"] f22 _ := ⟨PySem.W.mg_of X G a22, F22, b22⟩
  have F23 := fun_mk (st := sLaw) l23 c23 k23
  have b23 := F23.binds (ps := ["_law_script"]) fun _ _ _ _ _ _ us hl => match us, hl with | [_], _ => rfl
  have A23 : At K mg "law" sLaw ["_law_script"] fa _ := ⟨PySem.W.mg_of X G a23, F23, b23⟩
  have Z_All : Mk0 K mg xAll "All" := ⟨PySem.W.mg_of X G gAll, mkAll, inAll, kcAll⟩
  refine ⟨PySem.W.fnOf "law" "law" (defArgs sLaw) (defBody sLaw) (defScope sLaw) .none kV23 dc23 pm23 an23 cd23 ct23, fun s v => .of_eq rfl, fun base _ _ => ?_⟩
  have G_first_missing := ok_first_missing (P := l.prog) (w := w) (base := base) (c := (⟨0, 0, 0, 0, xAnswer, xAll, xGap, xBest⟩ : Ca)) A2 T  
  have M_All_shows := ok_All_shows (P := l.prog) (w := w) (base := base) (c := (⟨0, 0, 0, 0, xAnswer, xAll, xGap, xBest⟩ : Ca)) A7 T G_first_missing 
  have G_Gap_init := ok_Gap_init (P := l.prog) (w := w) (base := base) (c := (⟨0, 0, 0, 0, xAnswer, xAll, xGap, xBest⟩ : Ca)) A8 T  
  have G_lighter := ok_lighter (P := l.prog) (w := w) (base := base) (c := (⟨0, 0, 0, 0, xAnswer, xAll, xGap, xBest⟩ : Ca)) A3 T  
  have M_Gap_shows := ok_Gap_shows (P := l.prog) (w := w) (base := base) (c := (⟨0, 0, 0, 0, xAnswer, xAll, xGap, xBest⟩ : Ca)) A9 T G_lighter 
  have G_is_number := ok_is_number (P := l.prog) (w := w) (base := base) (c := (⟨0, 0, 0, 0, xAnswer, xAll, xGap, xBest⟩ : Ca)) A0 T  
  have G_asked_set := ok_asked_set (P := l.prog) (w := w) (base := base) (c := (⟨0, 0, 0, 0, xAnswer, xAll, xGap, xBest⟩ : Ca)) A1 T G_is_number 
  have G_Best_init := ok_Best_init (P := l.prog) (w := w) (base := base) (c := (⟨0, 0, 0, 0, xAnswer, xAll, xGap, xBest⟩ : Ca)) A10 T  
  have G_asked_most := ok_asked_most (P := l.prog) (w := w) (base := base) (c := (⟨0, 0, 0, 0, xAnswer, xAll, xGap, xBest⟩ : Ca)) A12 T G_is_number 
  have G_fewest := ok_fewest (P := l.prog) (w := w) (base := base) (c := (⟨0, 0, 0, 0, xAnswer, xAll, xGap, xBest⟩ : Ca)) A14 T G_asked_set G_Best_init G_asked_most 
  have G_law_set := ok_law_set (P := l.prog) (w := w) (base := base) (c := (⟨0, 0, 0, 0, xAnswer, xAll, xGap, xBest⟩ : Ca)) A15 T  
  have G_law_gap := ok_law_gap (P := l.prog) (w := w) (base := base) (c := (⟨0, 0, 0, 0, xAnswer, xAll, xGap, xBest⟩ : Ca)) A16 T  
  have G_law_says := ok_law_says (P := l.prog) (w := w) (base := base) (c := (⟨0, 0, 0, 0, xAnswer, xAll, xGap, xBest⟩ : Ca)) A18 T  
  have G_law_bent := ok_law_bent (P := l.prog) (w := w) (base := base) (c := (⟨0, 0, 0, 0, xAnswer, xAll, xGap, xBest⟩ : Ca)) A19 T  
  have M_Best_shows := ok_Best_shows (P := l.prog) (w := w) (base := base) (c := (⟨0, 0, 0, 0, xAnswer, xAll, xGap, xBest⟩ : Ca)) A11 T G_first_missing 
  have G_law_due := ok_law_due (P := l.prog) (w := w) (base := base) (c := (⟨0, 0, 0, 0, xAnswer, xAll, xGap, xBest⟩ : Ca)) A17 T G_law_gap 
  have G_law_best_right := ok_law_best_right (P := l.prog) (w := w) (base := base) (c := (⟨0, 0, 0, 0, xAnswer, xAll, xGap, xBest⟩ : Ca)) A20 T G_Best_init M_Best_shows G_law_due G_law_says 
  have G_first_gap := ok_first_gap (P := l.prog) (w := w) (base := base) (c := (⟨0, 0, 0, 0, xAnswer, xAll, xGap, xBest⟩ : Ca)) A4 T G_asked_set G_first_missing 
  have G_weighing := ok_weighing (P := l.prog) (w := w) (base := base) (c := (⟨0, 0, 0, 0, xAnswer, xAll, xGap, xBest⟩ : Ca)) A5 T G_is_number G_asked_set G_first_missing 
  have G_without := ok_without (P := l.prog) (w := w) (base := base) (c := (⟨0, 0, 0, 0, xAnswer, xAll, xGap, xBest⟩ : Ca)) A6 T G_is_number G_asked_set G_first_missing 
  have G_told := ok_told (P := l.prog) (w := w) (base := base) (c := (⟨0, 0, 0, 0, xAnswer, xAll, xGap, xBest⟩ : Ca)) A13 T G_asked_set G_first_missing G_Gap_init G_asked_most Z_All
  have G_law_fewest_promises := ok_law_fewest_promises (P := l.prog) (w := w) (base := base) (c := (⟨0, 0, 0, 0, xAnswer, xAll, xGap, xBest⟩ : Ca)) A22 T G_Best_init M_Best_shows G_told G_fewest 
  have G_law_promises_right := ok_law_promises_right (P := l.prog) (w := w) (base := base) (c := (⟨0, 0, 0, 0, xAnswer, xAll, xGap, xBest⟩ : Ca)) A21 T G_first_gap G_weighing G_without M_All_shows G_Gap_init M_Gap_shows G_law_fewest_promises Z_All
  have G_law := ok_law (P := l.prog) (w := w) (base := base) (c := (⟨0, 0, 0, 0, xAnswer, xAll, xGap, xBest⟩ : Ca)) A23 T M_All_shows G_Gap_init M_Gap_shows G_fewest G_law_set G_law_gap G_law_says G_law_bent G_law_best_right G_law_promises_right Z_All
  exact G_law.ok
end
end Wt
open PySem PySem.W PyProof.Rows
set_option maxRecDepth 100000 in
set_option maxHeartbeats 0 in
theorem PySem.Challenge.cw_weightset_k05_answers_by_hand_holds : PySem.Challenge.rw_weightset_k05_answers_by_hand.Holds := by
  w_on; o_law; k_head; (case hw => w_witness2)
  k_fill
  refine L2.walk_ofB (l := PySem.Challenge.rw_weightset_k05_answers_by_hand) (n := 63) (k := 6) (x := "_law_script") (CX := fun w => L2.CX0) (sp := fun w => Wt.sp_law _) rfl (by decide) rfl ⟨rfl, by decide, by decide⟩ (fun w h Y => PySem.W.kIn_of Y) ?F (fun _ _ a ns hl hb _ hS => Wt.law_ask a ns hl hb hS) (fun _ _ _ _ _ h => h)
  case F =>
    intro w mg fa h KX G hmg
    refine' Wt.all_mk KX G hmg ?gAll ?gGap ?gBest ?gAnswer ?a0 ?l0 ?c0 ?k0 ?a1 ?l1 ?c1 ?k1 ?a2 ?l2 ?c2 ?k2 ?a3 ?l3 ?c3 ?k3 ?a4 ?l4 ?c4 ?k4 ?a5 ?l5 ?c5 ?k5 ?a6 ?l6 ?c6 ?k6 ?a7 ?i7 ?l7 ?c7 ?k7 ?a8 ?i8 ?l8 ?c8 ?k8 ?a9 ?i9 ?l9 ?c9 ?k9 ?a10 ?i10 ?l10 ?c10 ?k10 ?a11 ?i11 ?l11 ?c11 ?k11 ?a12 ?l12 ?c12 ?k12 ?a13 ?l13 ?c13 ?k13 ?a14 ?l14 ?c14 ?k14 ?a15 ?l15 ?c15 ?k15 ?a16 ?l16 ?c16 ?k16 ?a17 ?l17 ?c17 ?k17 ?a18 ?l18 ?c18 ?k18 ?a19 ?l19 ?c19 ?k19 ?a20 ?l20 ?c20 ?k20 ?a21 ?l21 ?c21 ?k21 ?a22 ?l22 ?c22 ?k22 ?a23 ?l23 ?c23 ?k23 ?pgAll ?hdAll ?poAll ?saAll ?mkAll ?kcAll ?icAll ?omAll ?ktAllAll ?ktAllGap ?ktAllBest ?ktAllAnswer ?inAll ?pgGap ?hdGap ?poGap ?saGap ?mkGap ?kcGap ?nGapnumber ?icGap ?omGap ?ktGapAll ?ktGapGap ?ktGapBest ?ktGapAnswer ?pgBest ?hdBest ?poBest ?saBest ?mkBest ?kcBest ?nBestadded ?nBestmisses ?icBest ?omBest ?ktBestAll ?ktBestGap ?ktBestBest ?ktBestAnswer ?qcAll ?qtAll ?qsAll ?qcGap ?qtGap ?qsGap ?qcBest ?qtBest ?qsBest ?qcAnswer ?qtAnswer ?qsAnswer ?dsp ?tks ?zall ?zany ?zbool ?zenumerate ?zint ?zisinstance ?zlen ?zlist ?zrange ?zsorted ?zsum ?zzip
    (case gAll => k_is)
    (case gGap => k_is)
    (case gBest => k_is)
    (case gAnswer => k_is)
    (case a0 => k_is)
    (case l0 => k_is)
    (case c0 => k_is)
    (case k0 => k_is)
    (case a1 => k_is)
    (case l1 => k_is)
    (case c1 => k_is)
    (case k1 => k_is)
    (case a2 => k_is)
    (case l2 => k_is)
    (case c2 => k_is)
    (case k2 => k_is)
    (case a3 => k_is)
    (case l3 => k_is)
    (case c3 => k_is)
    (case k3 => k_is)
    (case a4 => k_is)
    (case l4 => k_is)
    (case c4 => k_is)
    (case k4 => k_is)
    (case a5 => k_is)
    (case l5 => k_is)
    (case c5 => k_is)
    (case k5 => k_is)
    (case a6 => k_is)
    (case l6 => k_is)
    (case c6 => k_is)
    (case k6 => k_is)
    (case a7 => k_is)
    (case i7 => k_is)
    (case l7 => k_is)
    (case c7 => k_is)
    (case k7 => k_is)
    (case a8 => k_is)
    (case i8 => k_is)
    (case l8 => k_is)
    (case c8 => k_is)
    (case k8 => k_is)
    (case a9 => k_is)
    (case i9 => k_is)
    (case l9 => k_is)
    (case c9 => k_is)
    (case k9 => k_is)
    (case a10 => k_is)
    (case i10 => k_is)
    (case l10 => k_is)
    (case c10 => k_is)
    (case k10 => k_is)
    (case a11 => k_is)
    (case i11 => k_is)
    (case l11 => k_is)
    (case c11 => k_is)
    (case k11 => k_is)
    (case a12 => k_is)
    (case l12 => k_is)
    (case c12 => k_is)
    (case k12 => k_is)
    (case a13 => k_is)
    (case l13 => k_is)
    (case c13 => k_is)
    (case k13 => k_is)
    (case a14 => k_is)
    (case l14 => k_is)
    (case c14 => k_is)
    (case k14 => k_is)
    (case a15 => k_is)
    (case l15 => k_is)
    (case c15 => k_is)
    (case k15 => k_is)
    (case a16 => k_is)
    (case l16 => k_is)
    (case c16 => k_is)
    (case k16 => k_is)
    (case a17 => k_is)
    (case l17 => k_is)
    (case c17 => k_is)
    (case k17 => k_is)
    (case a18 => k_is)
    (case l18 => k_is)
    (case c18 => k_is)
    (case k18 => k_is)
    (case a19 => k_is)
    (case l19 => k_is)
    (case c19 => k_is)
    (case k19 => k_is)
    (case a20 => k_is)
    (case l20 => k_is)
    (case c20 => k_is)
    (case k20 => k_is)
    (case a21 => k_is)
    (case l21 => k_is)
    (case c21 => k_is)
    (case k21 => k_is)
    (case a22 => k_is)
    (case l22 => k_is)
    (case c22 => k_is)
    (case k22 => k_is)
    (case a23 => k_is)
    (case l23 => k_is)
    (case c23 => k_is)
    (case k23 => k_is)
    (case pgAll => k_is)
    (case hdAll => k_is)
    (case poAll => k_is)
    (case saAll => k_is)
    (case mkAll => k_is)
    (case kcAll => k_is)
    (case icAll => k_is)
    (case omAll => k_is)
    (case ktAllAll => first | k_is | rfl)
    (case ktAllGap => first | k_is | rfl)
    (case ktAllBest => first | k_is | rfl)
    (case ktAllAnswer => first | k_is | rfl)
    (case inAll => k_is)
    (case pgGap => k_is)
    (case hdGap => k_is)
    (case poGap => k_is)
    (case saGap => k_is)
    (case mkGap => k_is)
    (case kcGap => k_is)
    (case nGapnumber => k_is)
    (case icGap => k_is)
    (case omGap => k_is)
    (case ktGapAll => first | k_is | rfl)
    (case ktGapGap => first | k_is | rfl)
    (case ktGapBest => first | k_is | rfl)
    (case ktGapAnswer => first | k_is | rfl)
    (case pgBest => k_is)
    (case hdBest => k_is)
    (case poBest => k_is)
    (case saBest => k_is)
    (case mkBest => k_is)
    (case kcBest => k_is)
    (case nBestadded => k_is)
    (case nBestmisses => k_is)
    (case icBest => k_is)
    (case omBest => k_is)
    (case ktBestAll => first | k_is | rfl)
    (case ktBestGap => first | k_is | rfl)
    (case ktBestBest => first | k_is | rfl)
    (case ktBestAnswer => first | k_is | rfl)
    (case qcAll => k_is)
    (case qtAll => k_is)
    (case qsAll => first | k_is | rfl)
    (case qcGap => k_is)
    (case qtGap => k_is)
    (case qsGap => first | k_is | rfl)
    (case qcBest => k_is)
    (case qtBest => k_is)
    (case qsBest => first | k_is | rfl)
    (case qcAnswer => k_is)
    (case qtAnswer => k_is)
    (case qsAnswer => first | k_is | rfl)
    (case dsp => k_is)
    (case tks => k_is)
    (case zall => k_is)
    (case zany => k_is)
    (case zbool => k_is)
    (case zenumerate => k_is)
    (case zint => k_is)
    (case zisinstance => k_is)
    (case zlen => k_is)
    (case zlist => k_is)
    (case zrange => k_is)
    (case zsorted => k_is)
    (case zsum => k_is)
    (case zzip => k_is)
