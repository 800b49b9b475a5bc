import PyProof.Rows.All
import Wide.All
import OpenK.AllK
import Wide.FinOn
import HandS.ForMost
import HandS.ForExc
import HandS.EndBits
import HandS.IsInst
import HandS.Style
import HandS.SortInts
import HandS.SortRule
import HandS.WideBits
import HandS.Zip
import HandS.SetFor
import HandS.Strs
import HandS.ExcIs
import HandS.Evl
import PySem.Challenge.RW_weightset_k04_changes
set_option Elab.async false
set_option linter.all false
set_option maxRecDepth 100000
set_option maxHeartbeats 4000000
namespace Wt
/-! plain mathematics: sorting, the first gap -/
def ins (a : Int) : List Int → List Int
  | [] => [a]
  | b :: r => if a ≤ b then a :: b :: r else b :: ins a r
def srt : List Int → List Int
  | [] => []
  | a :: r => ins a (srt r)
theorem ins_perm (a : Int) : ∀ l : List Int, (ins a l).Perm (a :: l)
  | [] => List.Perm.refl _
  | b :: r => by
    unfold ins
    split
    · exact List.Perm.refl _
    · exact ((ins_perm a r).cons b).trans (List.Perm.swap a b r)
theorem srt_perm : ∀ l : List Int, (srt l).Perm l
  | [] => List.Perm.refl _
  | a :: r => (ins_perm a (srt r)).trans ((srt_perm r).cons a)
theorem ins_pw (a : Int) : ∀ {l : List Int}, l.Pairwise (· ≤ ·) → (ins a l).Pairwise (· ≤ ·)
  | [], _ => List.pairwise_cons.mpr ⟨(fun _ h => nomatch h), List.Pairwise.nil⟩
  | b :: r, h => by
    have ⟨h1, h2⟩ := List.pairwise_cons.mp h
    unfold ins
    split
    · rename_i hab
      refine List.pairwise_cons.mpr ⟨fun x hx => ?_, h⟩
      rcases List.mem_cons.mp hx with e | e
      · rw [e]; exact hab
      · exact Int.le_trans hab (h1 x e)
    · rename_i hab
      refine List.pairwise_cons.mpr ⟨fun x hx => ?_, ins_pw a h2⟩
      rcases List.mem_cons.mp ((ins_perm a r).mem_iff.mp hx) with e | e
      · rw [e]; omega
      · exact h1 x e
theorem srt_pw : ∀ l : List Int, (srt l).Pairwise (· ≤ ·)
  | [] => List.Pairwise.nil
  | a :: r => ins_pw a (srt_pw r)
theorem srt_uniq {l m : List Int} (p : l.Perm m) (s : l.Pairwise (· ≤ ·)) : l = srt m :=
  List.Perm.eq_of_pairwise (le := (· ≤ ·)) (fun a b _ _ h1 h2 => Int.le_antisymm h1 h2) s (srt_pw m) (p.trans (srt_perm m).symm)
theorem srt_congr {l m : List Int} (p : l.Perm m) : srt l = srt m := srt_uniq ((srt_perm l).trans p) (srt_pw l)
theorem srt_length (l : List Int) : (srt l).length = l.length := (srt_perm l).length_eq
theorem perm_sum {l m : List Int} (p : l.Perm m) : l.sum = m.sum := by
  induction p with
  | nil => rfl
  | cons x _ ih => simp only [List.sum_cons, ih]
  | swap x y l => simp only [List.sum_cons]; omega
  | trans _ _ ih1 ih2 => exact ih1.trans ih2
def Pos (l : List Int) : Prop := ∀ w ∈ l, 1 ≤ w
theorem Pos.perm {l m : List Int} (h : Pos l) (p : m.Perm l) : Pos m := fun w hw => h w (p.mem_iff.mp hw)
theorem Pos.cons {a : Int} {l : List Int} (h : Pos (a :: l)) : 1 ≤ a ∧ Pos l := ⟨h a List.mem_cons_self, fun w hw => h w (List.mem_cons_of_mem _ hw)⟩
theorem Pos.append {l m : List Int} (h : Pos l) (k : Pos m) : Pos (l ++ m) := fun w hw => (List.mem_append.mp hw).elim (h w) (k w)
theorem Pos.one {a : Int} (h : 1 ≤ a) : Pos [a] := fun w hw => by rw [List.mem_singleton.mp hw]; exact h
theorem Pos.nil : Pos [] := fun _ h => nomatch h
theorem Pos.sub {l m : List Int} (h : Pos l) (k : ∀ x ∈ m, x ∈ l) : Pos m := fun w hw => h w (k w hw)
theorem pos_sum {l : List Int} (h : Pos l) : 0 ≤ l.sum := by
  induction l with
  | nil => exact Int.le_refl _
  | cons a r ih =>
    have ⟨h1, h2⟩ := h.cons
    have := ih h2
    rw [List.sum_cons]; omega
/-- all weights up to x together -/
def sle (x : Int) (l : List Int) : Int := (l.filter fun w => decide (w ≤ x)).sum
def slt (x : Int) (l : List Int) : Int := (l.filter fun w => decide (w < x)).sum
theorem sle_nil (x : Int) : sle x [] = 0 := rfl
theorem sle_cons (x a : Int) (l : List Int) : sle x (a :: l) = (if a ≤ x then a else 0) + sle x l := by
  unfold sle
  by_cases h : a ≤ x
  · rw [List.filter_cons_of_pos (by simpa using h), if_pos h, List.sum_cons]
  · rw [List.filter_cons_of_neg (by simpa using h), if_neg h]; omega
theorem slt_cons (x a : Int) (l : List Int) : slt x (a :: l) = (if a < x then a else 0) + slt x l := by
  unfold slt
  by_cases h : a < x
  · rw [List.filter_cons_of_pos (by simpa using h), if_pos h, List.sum_cons]
  · rw [List.filter_cons_of_neg (by simpa using h), if_neg h]; omega
theorem sle_append (x : Int) (l m : List Int) : sle x (l ++ m) = sle x l + sle x m := by
  unfold sle
  rw [List.filter_append, List.sum_append_int]
theorem sle_perm (x : Int) {l m : List Int} (p : l.Perm m) : sle x l = sle x m := perm_sum (p.filter _)
theorem slt_perm (x : Int) {l m : List Int} (p : l.Perm m) : slt x l = slt x m := perm_sum (p.filter _)
theorem sle_nonneg {l : List Int} (h : Pos l) (x : Int) : 0 ≤ sle x l := pos_sum (h.sub fun _ hw => (List.mem_filter.mp hw).1)
theorem sle_one (x a : Int) : sle x [a] = if a ≤ x then a else 0 := by rw [sle_cons, sle_nil]; omega
theorem sle_mem {l : List Int} (h : Pos l) {x a : Int} (ha : a ∈ l) (hx : a ≤ x) : a ≤ sle x l := by
  induction l with
  | nil => cases ha
  | cons b r ih =>
    have ⟨h1, h2⟩ := h.cons
    have hn := sle_nonneg h2 x
    rw [sle_cons]
    rcases List.mem_cons.mp ha with e | e
    · subst e; rw [if_pos hx]; omega
    · have := ih h2 e
      split <;> omega
theorem sle_mono {l : List Int} (h : Pos l) {x y : Int} (hxy : x ≤ y) : sle x l ≤ sle y l := by
  induction l with
  | nil => exact Int.le_refl _
  | cons b r ih =>
    have ⟨h1, h2⟩ := h.cons
    have := ih h2
    rw [sle_cons, sle_cons]
    split <;> split <;> omega
theorem slt_sle {l : List Int} {x : Int} (h : x ∉ l) : slt x l = sle x l := by
  induction l with
  | nil => rfl
  | cons b r ih =>
    have hb : x ≠ b := fun e => h (by rw [e]; exact List.mem_cons_self)
    have hr : x ∉ r := fun e => h (List.mem_cons_of_mem _ e)
    rw [sle_cons, slt_cons, ih hr]
    by_cases q : b ≤ x
    · rw [if_pos q, if_pos (by omega)]
    · rw [if_neg q, if_neg (by omega)]
/-! the two readings of the first gap -/
def fstep (f w : Int) : Int := if w ≤ f then f + w else f
def fm (ns : List Int) : Int := (srt ns).foldl fstep 1
def gp : Int → List Int → Int
  | W, [] => W + 1
  | W, w :: r => if w > W + 1 then W + 1 else gp (W + w) r
def lg (ns : List Int) : Int := gp 0 (srt ns)
theorem fold_stay : ∀ {l : List Int} {f : Int}, (∀ x ∈ l, f < x) → l.foldl fstep f = f
  | [], _, _ => rfl
  | a :: r, f, h => by
    have ha := h a List.mem_cons_self
    show r.foldl fstep (fstep f a) = f
    rw [show fstep f a = f from if_neg (by omega)]
    exact fold_stay fun x hx => h x (List.mem_cons_of_mem _ hx)
theorem fold_gp : ∀ {l : List Int} {W : Int}, l.Pairwise (· ≤ ·) → l.foldl fstep (W + 1) = gp W l
  | [], _, _ => rfl
  | a :: r, W, h => by
    have ⟨h1, h2⟩ := List.pairwise_cons.mp h
    show r.foldl fstep (fstep (W + 1) a) = if a > W + 1 then W + 1 else gp (W + a) r
    by_cases q : a > W + 1
    · rw [if_pos q, show fstep (W + 1) a = W + 1 from if_neg (by omega)]
      exact fold_stay fun x hx => by have := h1 x hx; omega
    · rw [if_neg q, show fstep (W + 1) a = W + a + 1 from (if_pos (by omega)).trans (by omega)]
      exact fold_gp h2
theorem fm_lg (ns : List Int) : fm ns = lg ns := fold_gp (W := 0) (srt_pw ns)
theorem fm_perm {l m : List Int} (p : l.Perm m) : fm l = fm m := by unfold fm; rw [srt_congr p]
theorem gp_ge : ∀ {l : List Int} {W : Int}, Pos l → W + 1 ≤ gp W l
  | [], _, _ => Int.le_refl _
  | a :: r, W, h => by
    have ⟨h1, h2⟩ := h.cons
    show W + 1 ≤ if a > W + 1 then W + 1 else gp (W + a) r
    split
    · exact Int.le_refl _
    · have := gp_ge (W := W + a) h2; omega
theorem gp_sle : ∀ {l : List Int} {W : Int}, Pos l → l.Pairwise (· ≤ ·) → 0 ≤ W → sle (gp W l) l + W = gp W l - 1
  | [], W, _, _, _ => by show (0 : Int) + W = W + 1 - 1; omega
  | a :: r, W, h, s, hW => by
    have ⟨h1, h2⟩ := h.cons
    have ⟨s1, s2⟩ := List.pairwise_cons.mp s
    have hg : gp W (a :: r) = if a > W + 1 then W + 1 else gp (W + a) r := rfl
    by_cases q : a > W + 1
    · rw [if_pos q] at hg
      rw [hg]
      have : sle (W + 1) (a :: r) = 0 := by
        unfold sle
        rw [List.filter_eq_nil_iff.mpr]
        · rfl
        · intro x hx
          rcases List.mem_cons.mp hx with e | e
          · subst e; simp; omega
          · have := s1 x e; simp; omega
      omega
    · rw [if_neg q] at hg
      rw [hg, sle_cons]
      have ih := gp_sle (W := W + a) h2 s2 (by omega)
      have hge := gp_ge (W := W + a) h2
      rw [if_pos (by omega)]
      omega
theorem gp_below : ∀ {l : List Int} {W x : Int}, Pos l → W + 1 ≤ x → x < gp W l → x ≤ sle x l + W
  | [], W, x, _, h1, h2 => by
    have h2' : x < W + 1 := h2
    omega
  | a :: r, W, x, h, h1, h2 => by
    have ⟨p1, p2⟩ := h.cons
    have hg : gp W (a :: r) = if a > W + 1 then W + 1 else gp (W + a) r := rfl
    rw [sle_cons]
    by_cases q : a > W + 1
    · rw [hg, if_pos q] at h2; omega
    · rw [hg, if_neg q] at h2
      have hn := sle_nonneg p2 x
      by_cases c : W + a + 1 ≤ x
      · have := gp_below (W := W + a) p2 c h2
        rw [if_pos (by omega)]; omega
      · rw [if_pos (by omega)]; omega
section
variable {ws : List Int}
theorem fm_pos (h : Pos ws) : 1 ≤ fm ws := by
  rw [fm_lg]; have := gp_ge (W := 0) (h.perm (srt_perm ws)); unfold lg; omega
theorem fm_sle (h : Pos ws) : sle (fm ws) ws = fm ws - 1 := by
  rw [fm_lg]
  have := gp_sle (W := 0) (h.perm (srt_perm ws)) (srt_pw ws) (by omega)
  rw [sle_perm _ (srt_perm ws)] at this
  unfold lg; omega
theorem fm_below (h : Pos ws) {x : Int} (h1 : 1 ≤ x) (h2 : x < fm ws) : x ≤ sle x ws := by
  rw [fm_lg] at h2
  have := gp_below (W := 0) (h.perm (srt_perm ws)) (by omega) h2
  rw [sle_perm _ (srt_perm ws)] at this
  omega
theorem fm_le (h : Pos ws) {x : Int} (h1 : 1 ≤ x) (h2 : sle x ws < x) : fm ws ≤ x := by
  by_cases c : fm ws ≤ x
  · exact c
  · have := fm_below h h1 (by omega); omega
theorem fm_not_mem (h : Pos ws) : fm ws ∉ ws := fun hm => by
  have h1 := fm_sle h
  have h2 := sle_mem h hm (Int.le_refl _)
  omega
theorem fm_slt (h : Pos ws) : slt (fm ws) ws = fm ws - 1 := by rw [slt_sle (fm_not_mem h), fm_sle h]
/-- fewer weights, no greater gap -/
theorem fm_mono {a b : List Int} (ha : Pos a) (hb : Pos b) (h : ∀ x, sle x a ≤ sle x b) : fm a ≤ fm b := by
  refine fm_le ha (fm_pos hb) ?_
  have := h (fm b)
  have := fm_sle hb
  omega
theorem fm_app {a b : List Int} (ha : Pos a) (hb : Pos b) : fm a + fm b - 1 ≤ fm (a ++ b) := by
  have hab := ha.append hb
  have e := fm_sle hab
  rw [sle_append] at e
  have px := fm_pos hab
  have g1 := sle_nonneg ha (fm (a ++ b))
  have g2 := sle_nonneg hb (fm (a ++ b))
  have la : fm a ≤ fm (a ++ b) := by
    refine fm_le ha px ?_
    omega
  have lb : fm b ≤ fm (a ++ b) := by
    refine fm_le hb px ?_
    omega
  have m1 := sle_mono ha la
  have m2 := sle_mono hb lb
  have e1 := fm_sle ha
  have e2 := fm_sle hb
  omega
theorem fm_app_left {a b : List Int} (ha : Pos a) (hb : Pos b) : fm a ≤ fm (a ++ b) := by
  have := fm_app ha hb
  have := fm_pos hb
  omega
theorem fm_app_right {a b : List Int} (ha : Pos a) (hb : Pos b) : fm b ≤ fm (a ++ b) := by
  have := fm_app ha hb
  have := fm_pos ha
  omega
/-- a weight no heavier than the gap -/
theorem fm_put {a : List Int} {w : Int} (ha : Pos a) (hw : 1 ≤ w) (h : w ≤ fm a) : fm a + w ≤ fm (a ++ [w]) := by
  have hb := Pos.one hw
  have hab := ha.append hb
  have e := fm_sle hab
  have l := fm_app_left ha hb
  rw [sle_append, sle_one, if_pos (by omega)] at e
  have m1 := sle_mono ha l
  have e1 := fm_sle ha
  omega
theorem fm_put_far {a : List Int} {w : Int} (ha : Pos a) (h : fm a < w) : fm (a ++ [w]) = fm a := by
  have p := fm_pos ha
  have hb : Pos [w] := Pos.one (by omega)
  have hab := ha.append hb
  refine Int.le_antisymm (fm_le hab p ?_) (fm_app_left ha hb)
  rw [sle_append, sle_one, if_neg (by omega), fm_sle ha]
  omega
end
end Wt
namespace Wt
/-! greedy weighing -/
def lexLe (a b : Int × Int) : Prop := a.1 < b.1 ∨ (a.1 = b.1 ∧ a.2 ≤ b.2)
instance (a b : Int × Int) : Decidable (lexLe a b) := inferInstanceAs (Decidable (_ ∨ _))
def insP (a : Int × Int) : List (Int × Int) → List (Int × Int)
  | [] => [a]
  | b :: r => if lexLe a b then a :: b :: r else b :: insP a r
def srtP : List (Int × Int) → List (Int × Int)
  | [] => []
  | a :: r => insP a (srtP r)
theorem insP_perm (a : Int × Int) : ∀ l, (insP a l).Perm (a :: l)
  | [] => List.Perm.refl _
  | b :: r => by
    unfold insP
    split
    · exact List.Perm.refl _
    · exact ((insP_perm a r).cons b).trans (List.Perm.swap a b r)
theorem srtP_perm : ∀ l, (srtP l).Perm l
  | [] => List.Perm.refl _
  | a :: r => (insP_perm a (srtP r)).trans ((srtP_perm r).cons a)
theorem lexLe_trans {a b c : Int × Int} (h : lexLe a b) (k : lexLe b c) : lexLe a c := by
  unfold lexLe at *; omega
theorem lexLe_total {a b : Int × Int} (h : ¬ lexLe a b) : lexLe b a := by
  unfold lexLe at *; omega
theorem lexLe_antisymm {a b : Int × Int} (h : lexLe a b) (k : lexLe b a) : a = b := by
  unfold lexLe at *
  refine Prod.ext ?_ ?_ <;> omega
theorem insP_pw (a : Int × Int) : ∀ {l : List (Int × Int)}, l.Pairwise lexLe → (insP a l).Pairwise lexLe
  | [], _ => List.pairwise_cons.mpr ⟨(fun _ h => nomatch h), List.Pairwise.nil⟩
  | b :: r, h => by
    have ⟨h1, h2⟩ := List.pairwise_cons.mp h
    unfold insP
    split
    · rename_i hab
      refine List.pairwise_cons.mpr ⟨fun x hx => ?_, h⟩
      rcases List.mem_cons.mp hx with e | e
      · rw [e]; exact hab
      · exact lexLe_trans hab (h1 x e)
    · rename_i hab
      refine List.pairwise_cons.mpr ⟨fun x hx => ?_, insP_pw a h2⟩
      rcases List.mem_cons.mp ((insP_perm a r).mem_iff.mp hx) with e | e
      · rw [e]; exact lexLe_total hab
      · exact h1 x e
theorem srtP_pw : ∀ l, (srtP l).Pairwise lexLe
  | [] => List.Pairwise.nil
  | a :: r => insP_pw a (srtP_pw r)
theorem srtP_uniq {l m : List (Int × Int)} (p : l.Perm m) (s : l.Pairwise lexLe) : l = srtP m :=
  List.Perm.eq_of_pairwise (le := lexLe) (fun a b _ _ h1 h2 => lexLe_antisymm h1 h2) s (srtP_pw m) (p.trans (srtP_perm m).symm)
/-- the picked ones -/
def gr : Int → List (Int × Int) → List (Int × Int)
  | _, [] => []
  | left, (w, p) :: r => if w ≤ left then (w, p) :: gr (left - w) r else gr left r
theorem gr_sub : ∀ (l : List (Int × Int)) (left : Int), (gr left l).Sublist l
  | [], _ => List.Sublist.refl _
  | (w, p) :: r, left => by
    unfold gr
    split
    · exact (gr_sub r _).cons_cons _
    · exact (gr_sub r _).cons _
def Fr (l : List (Int × Int)) : Int := (l.reverse.map (·.1)).foldl fstep 1
theorem Fr_cons (x : Int × Int) (l : List (Int × Int)) : Fr (x :: l) = fstep (Fr l) x.1 := by
  unfold Fr
  rw [List.reverse_cons, List.map_append, List.foldl_append]
  rfl
theorem gr_sum : ∀ (l : List (Int × Int)) (left : Int), 0 ≤ left → left < Fr l → ((gr left l).map (·.1)).sum = left
  | [], left, h0, h1 => by
    have e : Fr [] = 1 := rfl
    show (0 : Int) = left
    omega
  | (w, p) :: r, left, h0, h1 => by
    rw [Fr_cons] at h1
    have h1' : left < if w ≤ Fr r then Fr r + w else Fr r := h1
    unfold gr
    by_cases c : w ≤ left
    · rw [if_pos c, List.map_cons, List.sum_cons]
      have : left - w < Fr r := by
        split at h1' <;> omega
      have := gr_sum r (left - w) (by omega) this
      show w + _ = left
      omega
    · rw [if_neg c]
      refine gr_sum r left h0 ?_
      split at h1' <;> omega
/-- the pairs of weights and places -/
def prs (ws : List Int) : List (Int × Int) := ws.zipIdx.map fun x => (x.1, (x.2 : Int))
theorem prs_fst (ws : List Int) : (prs ws).map (·.1) = ws := by
  unfold prs
  rw [List.map_map]
  exact List.zipIdx_map_fst 0 ws
theorem prs_length (ws : List Int) : (prs ws).length = ws.length := by
  unfold prs; rw [List.length_map, List.length_zipIdx]
theorem prs_get {ws : List Int} {i : Nat} {w : Int} (h : ws[i]? = some w) : (prs ws)[i]? = some (w, (i : Int)) := by
  unfold prs
  rw [List.getElem?_map, List.getElem?_zipIdx, h]
  simp
theorem prs_mem {ws : List Int} {x : Int × Int} (h : x ∈ prs ws) : ∃ i : Nat, x.2 = (i : Int) ∧ ws[i]? = some x.1 := by
  unfold prs at h
  obtain ⟨y, hy, e⟩ := List.mem_map.mp h
  refine ⟨y.2, by rw [← e], ?_⟩
  have := List.mk_mem_zipIdx_iff_getElem?.mp (show (y.1, y.2) ∈ ws.zipIdx from hy)
  rw [this, ← e]
theorem prs_places (ws : List Int) : (prs ws).map (·.2) = (List.range ws.length).map fun (i : Nat) => (i : Int) := by
  unfold prs
  rw [List.map_map]
  have : ((fun x : Int × Int => x.2) ∘ fun x : Int × Nat => (x.1, (x.2 : Int))) = (fun i : Nat => (i : Int)) ∘ (fun x : Int × Nat => x.2) := rfl
  rw [this, ← List.map_map, List.zipIdx_map_snd, List.range_eq_range']
theorem prs_nodup (ws : List Int) : ((prs ws).map (·.2)).Nodup := by
  rw [prs_places]
  refine List.Pairwise.map _ ?_ (List.nodup_range (n := ws.length))
  intro a b h e
  exact h (by omega)
def wg (ws : List Int) (n : Int) : List Int := srt ((gr n (srtP (prs ws)).reverse).map (·.2))
theorem srtP_fst (ws : List Int) : (srtP (prs ws)).map (·.1) = srt ws := by
  refine srt_uniq ?_ ?_
  · have := (srtP_perm (prs ws)).map (·.1)
    rw [prs_fst] at this
    exact this
  · refine List.Pairwise.map _ ?_ (srtP_pw (prs ws))
    intro a b h
    unfold lexLe at h
    omega
theorem Fr_fm (ws : List Int) : Fr (srtP (prs ws)).reverse = fm ws := by
  unfold Fr
  rw [List.reverse_reverse, srtP_fst]
  rfl
theorem wg_mem {ws : List Int} {n p : Int} (h : p ∈ wg ws n) : ∃ i : Nat, p = (i : Int) ∧ i < ws.length := by
  have h1 := (srt_perm _).mem_iff.mp h
  obtain ⟨x, hx, e⟩ := List.mem_map.mp h1
  have h2 := (srtP_perm _).mem_iff.mp (List.mem_reverse.mp ((gr_sub _ _).subset hx))
  obtain ⟨i, e2, e3⟩ := prs_mem h2
  exact ⟨i, by omega, (List.getElem?_eq_some_iff.mp e3).1⟩
theorem wg_nodup (ws : List Int) (n : Int) : (wg ws n).Nodup := by
  refine (srt_perm _).nodup_iff.mpr ?_
  have h1 : ((srtP (prs ws)).map (·.2)).Nodup := ((srtP_perm (prs ws)).map (·.2)).nodup_iff.mpr (prs_nodup ws)
  have h2 : (((srtP (prs ws)).reverse).map (·.2)).Nodup := by
    rw [List.map_reverse]
    exact (List.reverse_perm _).nodup_iff.mpr h1
  exact h2.sublist ((gr_sub _ _).map _)
theorem wg_pw (ws : List Int) (n : Int) : (wg ws n).Pairwise (· ≤ ·) := srt_pw _
theorem wg_lt (ws : List Int) (n : Int) : (wg ws n).Pairwise (· < ·) := by
  have h1 := wg_pw ws n
  have h2 : (wg ws n).Pairwise (· ≠ ·) := wg_nodup ws n
  exact (List.Pairwise.and h1 h2).imp fun ⟨a, b⟩ => by omega
theorem wg_length (ws : List Int) (n : Int) : (wg ws n).length ≤ ws.length := by
  unfold wg
  rw [srt_length, List.length_map]
  refine Nat.le_trans (gr_sub _ _).length_le ?_
  rw [List.length_reverse, (srtP_perm _).length_eq, prs_length]
  exact Nat.le_refl _
theorem wg_sum {ws : List Int} {n : Int} (h0 : 0 ≤ n) (h1 : n < fm ws) : ((wg ws n).map fun p => ws.getD p.toNat 0).sum = n := by
  have e1 : ((wg ws n).map fun p => ws.getD p.toNat 0).sum = (((gr n (srtP (prs ws)).reverse).map (·.2)).map fun p => ws.getD p.toNat 0).sum := perm_sum ((srt_perm _).map _)
  rw [e1, List.map_map]
  have e2 : ∀ x ∈ gr n (srtP (prs ws)).reverse, ((fun p : Int => ws.getD p.toNat 0) ∘ (fun x : Int × Int => x.2)) x = x.1 := by
    intro x hx
    have h2 := (srtP_perm _).mem_iff.mp (List.mem_reverse.mp ((gr_sub _ _).subset hx))
    obtain ⟨i, e2, e3⟩ := prs_mem h2
    show ws.getD x.2.toNat 0 = x.1
    rw [e2, Int.toNat_natCast, List.getD_eq_getElem?_getD, e3]
    rfl
  rw [List.map_congr_left e2]
  exact gr_sum _ n h0 (by rw [Fr_fm]; exact h1)
theorem gr_length_le (l : List (Int × Int)) (n : Int) : (gr n l).length ≤ l.length := (gr_sub l n).length_le
/-! taking one out -/
theorem sle_cut (ws : List Int) (i : Nat) (h : Pos ws) (x : Int) : sle x (ws.take i ++ ws.drop (i + 1)) ≤ sle x ws := by
  have e : ws = ws.take i ++ ws.drop i := (List.take_append_drop i ws).symm
  have e2 : sle x ws = sle x (ws.take i) + sle x (ws.drop i) := by
    have := congrArg (sle x) e
    rw [sle_append] at this
    exact this
  rw [sle_append, e2]
  have hd : Pos (ws.drop i) := h.sub fun y hy => List.mem_of_mem_drop hy
  cases hc : ws.drop i with
  | nil =>
    have : ws.drop (i + 1) = [] := by
      rw [List.drop_eq_nil_iff] at *
      omega
    rw [this]
    exact Int.le_refl _
  | cons a r =>
    have : ws.drop (i + 1) = r := by
      rw [← List.tail_drop, hc]
      rfl
    rw [this, sle_cons]
    rw [hc] at hd
    have := hd.cons.1
    split <;> omega
theorem cut_pos {ws : List Int} (i : Nat) (h : Pos ws) : Pos (ws.take i ++ ws.drop (i + 1)) :=
  (h.sub fun _ hy => List.mem_of_mem_take hy).append (h.sub fun _ hy => List.mem_of_mem_drop hy)
theorem fm_cut {ws : List Int} (i : Nat) (h : Pos ws) : fm (ws.take i ++ ws.drop (i + 1)) ≤ fm ws :=
  fm_mono (cut_pos i h) h (sle_cut ws i h)
/-! subset sums -/
def Rep : List Int → Int → Prop
  | [], n => n = 0
  | w :: l, n => Rep l n ∨ Rep l (n - w)
theorem Rep.perm {l m : List Int} (p : l.Perm m) : ∀ {n : Int}, Rep l n → Rep m n := by
  induction p with
  | nil => exact fun h => h
  | cons x _ ih => exact fun h => h.elim (fun k => .inl (ih k)) (fun k => .inr (ih k))
  | swap x y l =>
    intro n h
    rcases h with (h | h) | (h | h)
    · exact .inl (.inl h)
    · exact .inr (.inl h)
    · exact .inl (.inr h)
    · refine .inr (.inr ?_)
      rw [show n - x - y = n - y - x by omega]
      exact h
  | trans _ _ ih1 ih2 => exact fun h => ih2 (ih1 h)
theorem rep_snoc {l : List Int} {w n : Int} : Rep (l ++ [w]) n ↔ Rep l n ∨ Rep l (n - w) :=
  ⟨fun h => (Rep.perm (List.perm_append_singleton w l) h : Rep (w :: l) n), fun h => Rep.perm (List.perm_append_singleton w l).symm (h : Rep (w :: l) n)⟩
theorem Rep.nonneg : ∀ {l : List Int} {n : Int}, Pos l → Rep l n → 0 ≤ n
  | [], n, _, h => by have : n = 0 := h; omega
  | w :: l, n, hp, h => by
    have ⟨p1, p2⟩ := hp.cons
    rcases h with h | h
    · exact Rep.nonneg p2 h
    · have := Rep.nonneg p2 h; omega
theorem Rep.le_sum : ∀ {l : List Int} {n : Int}, Pos l → Rep l n → n ≤ l.sum
  | [], n, _, h => by have : n = 0 := h; show n ≤ 0; omega
  | w :: l, n, hp, h => by
    have ⟨p1, p2⟩ := hp.cons
    rw [List.sum_cons]
    rcases h with h | h
    · have := Rep.le_sum p2 h; omega
    · have := Rep.le_sum p2 h; omega
theorem Rep.sle {x : Int} : ∀ {l : List Int} {n : Int}, Pos l → n ≤ x → Rep l n → n ≤ sle x l
  | [], n, _, _, h => by have : n = 0 := h; show n ≤ 0; omega
  | w :: l, n, hp, hx, h => by
    have ⟨p1, p2⟩ := hp.cons
    rw [sle_cons]
    rcases h with h | h
    · have := Rep.sle p2 hx h; split <;> omega
    · have h0 := Rep.nonneg p2 h
      have := Rep.sle (x := x) p2 (by omega) h
      rw [if_pos (by omega)]; omega
theorem not_rep_fm {ws : List Int} (h : Pos ws) : ¬ Rep ws (fm ws) := fun k => by
  have := Rep.sle h (Int.le_refl _) k
  have := fm_sle h
  omega
theorem rep_of_lt : ∀ (l : List Int) (n : Int), 0 ≤ n → n < l.reverse.foldl fstep 1 → Rep l n
  | [], n, h0, h1 => by
    have h1' : n < 1 := h1
    show n = 0
    omega
  | w :: r, n, h0, h1 => by
    rw [List.reverse_cons, List.foldl_append] at h1
    have h1' : n < if w ≤ r.reverse.foldl fstep 1 then r.reverse.foldl fstep 1 + w else r.reverse.foldl fstep 1 := h1
    by_cases c : w ≤ n
    · refine .inr (rep_of_lt r (n - w) (by omega) ?_)
      split at h1' <;> omega
    · refine .inl (rep_of_lt r n h0 ?_)
      split at h1' <;> omega
theorem rep_fm {ws : List Int} {n : Int} (h0 : 0 ≤ n) (h1 : n < fm ws) : Rep ws n := by
  have : Rep (srt ws).reverse n := rep_of_lt _ n h0 (by rw [List.reverse_reverse]; exact h1)
  exact this.perm ((List.reverse_perm _).trans (srt_perm ws))
theorem fm_le_sum {ws : List Int} (h : Pos ws) : fm ws ≤ ws.sum + 1 := by
  refine fm_le h (by have := pos_sum h; omega) ?_
  have : sle (ws.sum + 1) ws ≤ ws.sum := by
    have : ∀ (l : List Int) (x : Int), Pos l → sle x l ≤ l.sum := by
      intro l x
      induction l with
      | nil => intro _; exact Int.le_refl _
      | cons a r ih =>
        intro hp
        have ⟨p1, p2⟩ := hp.cons
        have := ih p2
        rw [sle_cons, List.sum_cons]
        split <;> omega
    exact this ws _ h
  omega
end Wt
namespace Wt
/-! the fewest more -/
def fw (most : Int) : Nat → List Int → Int → List Int
  | 0, _, _ => []
  | k + 1, [], reach => if reach < most then (reach + 1) :: fw most k [] (2 * reach + 1) else []
  | k + 1, o :: r, reach => if reach < most then (if o ≤ reach + 1 then fw most k r (reach + o) else (reach + 1) :: fw most k (o :: r) (2 * reach + 1)) else []
def few (ws : List Int) (most : Int) : List Int := fw most most.toNat (srt ws) 0
theorem fw_stop {most : Int} {k : Nat} {ord : List Int} {reach : Int} (h : ¬ reach < most) : fw most k ord reach = [] := by
  cases k with
  | zero => rfl
  | succ k =>
    cases ord with
    | nil => exact if_neg h
    | cons o r => exact if_neg h
theorem fw_take {most : Int} {k : Nat} {o : Int} {r : List Int} {reach : Int} (h : reach < most) (c : o ≤ reach + 1) : fw most (k + 1) (o :: r) reach = fw most k r (reach + o) := (if_pos h).trans (if_pos c)
theorem fw_miss {most : Int} {k : Nat} {ord : List Int} {reach : Int} (h : reach < most) (c : ∀ o, ord.head? = some o → ¬ o ≤ reach + 1) : fw most (k + 1) ord reach = (reach + 1) :: fw most k ord (2 * reach + 1) := by
  cases ord with
  | nil => exact if_pos h
  | cons o r => exact (if_pos h).trans (if_neg (c o rfl))
/-- more turns than are needed change nothing -/
theorem fw_more {most : Int} : ∀ (k : Nat) {j : Nat} {ord : List Int} {reach : Int}, Pos ord → 0 ≤ reach → (most - reach).toNat ≤ k → k ≤ j → fw most j ord reach = fw most k ord reach
  | 0, j, ord, reach, hp, hr, h1, h2 => by
    have : ¬ reach < most := by omega
    rw [fw_stop this, fw_stop this]
  | k + 1, j, ord, reach, hp, hr, h1, h2 => by
    by_cases c : reach < most
    · obtain ⟨i, rfl⟩ : ∃ i, j = i + 1 := ⟨j - 1, by omega⟩
      cases ord with
      | nil =>
        rw [fw_miss c (fun o h => by cases h), fw_miss c (fun o h => by cases h), fw_more k hp (by omega) (by omega) (by omega)]
      | cons o r =>
        have ⟨p1, p2⟩ := hp.cons
        by_cases q : o ≤ reach + 1
        · rw [fw_take c q, fw_take c q, fw_more k p2 (by omega) (by omega) (by omega)]
        · have hq : ∀ o', (o :: r).head? = some o' → ¬ o' ≤ reach + 1 := fun o' h => by cases h; exact q
          rw [fw_miss c hq, fw_miss c hq, fw_more k hp (by omega) (by omega) (by omega)]
    · rw [fw_stop c, fw_stop c]
/-- weights lighter than m are taken in -/
def eat (m : Int) : List Int → Int → List Int × Int
  | [], W => ([], W)
  | o :: r, W => if o < m then eat m r (W + o) else (o :: r, W)
theorem eat_sub (m : Int) : ∀ (ord : List Int) (W : Int), ∃ pre, ord = pre ++ (eat m ord W).1 ∧ (eat m ord W).2 = W + pre.sum
  | [], W => ⟨[], rfl, by show W = W + 0; omega⟩
  | o :: r, W => by
    unfold eat
    split
    · obtain ⟨pre, e1, e2⟩ := eat_sub m r (W + o)
      refine ⟨o :: pre, ?_, ?_⟩
      · rw [List.cons_append, ← e1]
      · rw [e2, List.sum_cons]; omega
    · exact ⟨[], rfl, by show W = W + 0; omega⟩
theorem eat_pos {m : Int} {ord : List Int} {W : Int} (h : Pos ord) (hW : 0 ≤ W) : Pos (eat m ord W).1 ∧ 0 ≤ (eat m ord W).2 := by
  obtain ⟨pre, e1, e2⟩ := eat_sub m ord W
  have h1 : Pos (eat m ord W).1 := h.sub fun x hx => by rw [e1]; exact List.mem_append.mpr (.inr hx)
  have h2 : Pos pre := h.sub fun x hx => by rw [e1]; exact List.mem_append.mpr (.inl hx)
  have := pos_sum h2
  exact ⟨h1, by omega⟩
/-- the program's look at the misses; W: the lighter weights and the misses ahead together -/
def shL (most : Int) : List Int → Int → List Int → Bool
  | _, _, [] => true
  | ord, W, m :: r => if ¬ (1 ≤ m ∧ m ≤ most) ∨ (eat m ord W).1.head? = some m ∨ (eat m ord W).2 ≠ m - 1 then false else shL most (eat m ord W).1 ((eat m ord W).2 + m) r
/-- the law's own look -/
def duL (most : Int) : List Int → Int → Int → List Int → Bool
  | _, _, _, [] => true
  | ord, W, ah, m :: r => if ¬ (ah < m ∧ m ≤ most) then false else if (eat m ord W).1.head? = some m ∨ (eat m ord W).2 + ah ≠ m - 1 then false else duL most (eat m ord W).1 (eat m ord W).2 (ah + m) r
theorem eat_shift (m d : Int) : ∀ (ord : List Int) (W : Int), (eat m ord (W + d)).1 = (eat m ord W).1 ∧ (eat m ord (W + d)).2 = (eat m ord W).2 + d
  | [], W => ⟨rfl, rfl⟩
  | o :: r, W => by
    unfold eat
    split
    · have := eat_shift m d r (W + o)
      rw [show W + d + o = W + o + d by omega]
      exact this
    · exact ⟨rfl, rfl⟩
theorem sh_du {most : Int} : ∀ (ms : List Int) {ord : List Int} {W ah : Int}, Pos ord → 0 ≤ W → 0 ≤ ah → shL most ord (W + ah) ms = duL most ord W ah ms
  | [], _, _, _, _, _, _ => by
    unfold shL duL
    rfl
  | m :: r, ord, W, ah, hp, hW, ha => by
    have ⟨e1, e2⟩ := eat_shift m ah ord W
    have ⟨q1, q2⟩ := eat_pos (m := m) hp hW
    unfold shL duL
    rw [e1, e2]
    by_cases c : (eat m ord W).1.head? = some m ∨ (eat m ord W).2 + ah ≠ m - 1
    · rw [if_pos (Or.inr c), if_pos c]
      split <;> rfl
    · rw [if_neg c]
      have c1 := fun z => c (Or.inl z)
      have c2 : (eat m ord W).2 + ah = m - 1 := Classical.byContradiction fun z => c (Or.inr z)
      by_cases g : m ≤ most
      · rw [if_neg (fun z : ¬ (ah < m ∧ m ≤ most) => z ⟨by omega, g⟩)]
        rw [if_neg (fun z : ¬ (1 ≤ m ∧ m ≤ most) ∨ _ => z.elim (fun w => w ⟨by omega, g⟩) c)]
        have ih := sh_du (most := most) r (ord := (eat m ord W).1) (W := (eat m ord W).2) (ah := ah + m) q1 q2 (by omega)
        rw [show (eat m ord W).2 + ah + m = (eat m ord W).2 + (ah + m) by omega]
        exact ih
      · rw [if_pos (fun z : ah < m ∧ m ≤ most => g z.2), if_pos (Or.inl fun z : 1 ≤ m ∧ m ≤ most => g z.2)]
def shB (ws : List Int) (most : Int) (added misses : List Int) : Bool :=
  if added.length ≠ misses.length ∨ added.all (fun a => decide (0 < a)) = false then false else if fm (ws ++ added) ≤ most then false else shL most (srt ws) 0 misses
def duB (ws : List Int) (most : Int) (added misses : List Int) : Bool :=
  if added.length ≠ misses.length ∨ added.any (fun a => decide (a < 1)) = true ∨ lg (ws ++ added) ≤ most then false else duL most (srt ws) 0 0 misses
theorem any_all (added : List Int) : added.any (fun a => decide (a < 1)) = true ↔ added.all (fun a => decide (0 < a)) = false := by
  induction added with
  | nil => simp
  | cons a r ih =>
    rw [List.any_cons, List.all_cons, Bool.or_eq_true, Bool.and_eq_false_iff, ih]
    refine or_congr ?_ Iff.rfl
    simp; omega
theorem shB_duB {ws : List Int} (h : Pos ws) (most : Int) (added misses : List Int) : shB ws most added misses = duB ws most added misses := by
  unfold shB duB
  rw [← fm_lg]
  have e : shL most (srt ws) 0 misses = duL most (srt ws) 0 0 misses := sh_du (W := 0) (ah := 0) misses (h.perm (srt_perm ws)) (by omega) (by omega)
  by_cases c1 : added.length ≠ misses.length
  · rw [if_pos (Or.inl c1), if_pos (Or.inl c1)]
  · by_cases c2 : added.any (fun a => decide (a < 1)) = true
    · rw [if_pos (Or.inr ((any_all added).mp c2)), if_pos (Or.inr (Or.inl c2))]
    · by_cases c3 : fm (ws ++ added) ≤ most
      · rw [if_neg (fun z => z.elim c1 fun w => c2 ((any_all added).mpr w)), if_pos c3, if_pos (Or.inr (Or.inr c3))]
      · rw [if_neg (fun z => z.elim c1 fun w => c2 ((any_all added).mpr w)), if_neg c3, if_neg (fun z => z.elim c1 fun w => w.elim c2 c3), e]
/-! what the fewest are worth -/
/-- everything put in, in the order it comes -/
structure FwOk (most : Int) (reach : Int) (ord : List Int) (ms : List Int) : Prop where
  pos : Pos ms
  sh : ∀ (pre : List Int) (W : Int), (∀ m, reach < m → eat m (pre ++ ord) W = eat m ord (W + pre.sum)) → W + pre.sum = reach → shL most (pre ++ ord) W ms = true
  far : ∀ base : List Int, Pos base → reach + 1 ≤ fm base → most + 1 ≤ fm (base ++ ord ++ ms)
theorem eat_pre {m : Int} : ∀ {pre ord : List Int} {W : Int}, (∀ x ∈ pre, x < m) → eat m (pre ++ ord) W = eat m ord (W + pre.sum)
  | [], ord, W, _ => by
    show eat m ord W = eat m ord (W + 0)
    rw [Int.add_zero]
  | a :: r, ord, W, h => by
    have ha := h a List.mem_cons_self
    show (if a < m then eat m (r ++ ord) (W + a) else _) = _
    rw [if_pos ha, eat_pre fun x hx => h x (List.mem_cons_of_mem _ hx), List.sum_cons, Int.add_assoc]
theorem eat_stop {m : Int} {ord : List Int} {W : Int} (h : ∀ o, ord.head? = some o → ¬ o < m) : eat m ord W = (ord, W) := by
  cases ord with
  | nil => rfl
  | cons o r => exact if_neg (h o rfl)
theorem fm_mid {a b c : List Int} : fm (a ++ b ++ c) = fm (a ++ c ++ b) := by
  refine fm_perm ?_
  rw [List.append_assoc, List.append_assoc]
  exact List.Perm.append_left a List.perm_append_comm
theorem fw_ok {most : Int} : ∀ (k : Nat) {ord : List Int} {reach : Int}, Pos ord → 0 ≤ reach → (most - reach).toNat ≤ k → FwOk most reach ord (fw most k ord reach)
  | 0, ord, reach, hp, hr, hk => by
    have : ¬ reach < most := by omega
    rw [fw_stop this]
    refine ⟨Pos.nil, fun pre W _ _ => by unfold shL; rfl, fun base hb hf => ?_⟩
    rw [List.append_nil]
    have := fm_app_left hb hp
    omega
  | k + 1, ord, reach, hp, hr, hk => by
    by_cases c : reach < most
    · have miss : (∀ o, ord.head? = some o → ¬ o ≤ reach + 1) → FwOk most reach ord (fw most (k + 1) ord reach) := by
        intro hq
        rw [fw_miss c hq]
        have ih := fw_ok (most := most) k (ord := ord) (reach := 2 * reach + 1) hp (by omega) (by omega)
        refine ⟨fun w hw => ?_, fun pre W he hW => ?_, fun base hb hf => ?_⟩
        · rcases List.mem_cons.mp hw with e | e
          · rw [e]; omega
          · exact ih.pos w e
        · have e1 : eat (reach + 1) (pre ++ ord) W = (ord, reach) := by
            rw [he _ (by omega), eat_stop fun o ho => by have := hq o ho; omega, hW]
          unfold shL
          rw [e1]
          rw [if_neg]
          · have := ih.sh [] (reach + (reach + 1)) (fun m hm => by rw [List.nil_append, List.sum_nil, Int.add_zero]) (by rw [List.sum_nil]; omega)
            rw [List.nil_append] at this
            exact this
          · rintro (z | z | z)
            · exact z ⟨by omega, by omega⟩
            · have := hq _ z; omega
            · exact z (by show reach = reach + 1 - 1; omega)
        · have hb2 : Pos (base ++ [reach + 1]) := hb.append (Pos.one (by omega))
          have := ih.far (base ++ [reach + 1]) hb2 (by have := fm_put hb (show 1 ≤ reach + 1 by omega) hf; omega)
          have e : fm (base ++ ord ++ (reach + 1) :: fw most k ord (2 * reach + 1)) = fm (base ++ [reach + 1] ++ ord ++ fw most k ord (2 * reach + 1)) := by
            refine fm_perm ?_
            have : base ++ ord ++ (reach + 1) :: fw most k ord (2 * reach + 1) = (base ++ ord ++ [reach + 1]) ++ fw most k ord (2 * reach + 1) := by
              rw [List.append_assoc (base ++ ord), List.singleton_append]
            rw [this]
            refine List.Perm.append_right _ ?_
            rw [List.append_assoc, List.append_assoc]
            exact List.Perm.append_left base List.perm_append_comm
          rw [e]
          exact this
      cases ord with
      | nil => exact miss fun o h => nomatch h
      | cons o r =>
        have ⟨p1, p2⟩ := hp.cons
        by_cases q : o ≤ reach + 1
        · rw [fw_take c q]
          have ih := fw_ok (most := most) k (ord := r) (reach := reach + o) p2 (by omega) (by omega)
          refine ⟨ih.pos, fun pre W he hW => ?_, fun base hb hf => ?_⟩
          · have e : pre ++ o :: r = (pre ++ [o]) ++ r := by rw [List.append_assoc, List.singleton_append]
            rw [e]
            refine ih.sh (pre ++ [o]) W (fun m hm => ?_) (by rw [List.sum_append_int, List.sum_cons, List.sum_nil]; omega)
            rw [← e, he m (by omega), List.sum_append_int, List.sum_cons, List.sum_nil]
            show (if o < m then eat m r (W + pre.sum + o) else _) = _
            rw [if_pos (by omega)]
            congr 1
            omega
          · have := ih.far (base ++ [o]) (hb.append (Pos.one p1)) (by have := fm_put hb p1 (by omega); omega)
            rw [List.append_assoc base, List.singleton_append] at this
            exact this
        · exact miss fun o' h => by cases h; exact q
    · rw [fw_stop c]
      refine ⟨Pos.nil, fun pre W _ _ => by unfold shL; rfl, fun base hb hf => ?_⟩
      rw [List.append_nil]
      have := fm_app_left hb hp
      omega
theorem few_ok {ws : List Int} (h : Pos ws) {most : Int} (h0 : 0 ≤ most) : Pos (few ws most) ∧ shL most (srt ws) 0 (few ws most) = true ∧ most + 1 ≤ fm (ws ++ few ws most) := by
  have f := fw_ok (most := most) most.toNat (ord := srt ws) (reach := 0) (h.perm (srt_perm ws)) (Int.le_refl _) (by omega)
  refine ⟨f.pos, ?_, ?_⟩
  · exact f.sh [] 0 (fun m _ => by rw [List.nil_append, List.sum_nil, Int.add_zero]) rfl
  · have := f.far [] Pos.nil (by show (0 : Int) + 1 ≤ 1; omega)
    rw [List.nil_append] at this
    have e : fm (srt ws ++ few ws most) = fm (ws ++ few ws most) := fm_perm ((srt_perm ws).append_right _)
    rw [← e]
    exact this
theorem few_sh {ws : List Int} (h : Pos ws) {most : Int} (h0 : 0 ≤ most) : shB ws most (few ws most) (few ws most) = true := by
  obtain ⟨a, b, c⟩ := few_ok h h0
  unfold shB
  rw [if_neg, if_neg (by omega)]
  · exact b
  · rintro (z | z)
    · exact z rfl
    · rw [List.all_eq_false] at z
      obtain ⟨x, hx, hz⟩ := z
      have := a x hx
      exact hz (by simpa using (by omega : 0 < x))
end Wt
namespace Wt
open PySem L2 PySem.Spec PyProof.Rows
/-! ### heaps -/
theorem same_up {H : Hp} {p : Addr} {o : HO} (h : H p = none) : Same H (upd H p o) := fun b x e => by
  rw [upd_ne (ne_of_none e h)]
  exact e
/-- a thing that the heap H does not know may change -/
theorem same_mut {H H' : Hp} {p : Addr} {o : HO} (e : Same H H') (h : H p = none) : Same H (upd H' p o) := fun b x k => by
  rw [upd_ne (ne_of_none k h)]
  exact e b x k
theorem same_at {H H' : Hp} {a : Addr} {o : HO} (e : Same H H') (h : H a = some o) : H' a = some o := e a o h
theorem sq_h {K : PySem.W.Frag} {H : Hp} {a : Addr} {xs : List V} (h : H a = some (.lst xs)) : SqL K H a xs := .inl (.inl h)
theorem st_h {K : PySem.W.Frag} {H : Hp} {a : Addr} {xs : List V} (h : H a = some (.tup xs)) : SqT K H a xs := .inl (.inl h)
theorem same_sq {K : PySem.W.Frag} {H H' : Hp} {a : Addr} {xs : List V} (e : Same H H') (h : SqL K H a xs) : SqL K H' a xs := e.seq h
theorem same_st {K : PySem.W.Frag} {H H' : Hp} {a : Addr} {xs : List V} (e : Same H H') (h : SqT K H a xs) : SqT K H' a xs := by
  rcases h with (h | ⟨o, h⟩) | h
  · exact .inl (.inl (e _ _ h))
  · exact .inl (.inr ⟨o, e _ _ h⟩)
  · exact .inr h
theorem line_big : (16777216 : Nat) ≤ sizeLine := by
  rw [sizeLine_eq]
  exact Nat.le_refl _
theorem fits {n : Nat} (h : n ≤ 16777215) : n ≤ sizeLine := Nat.le_trans h (Nat.le_trans (by decide) line_big)
theorem fits_lt {n : Nat} (h : n ≤ 16777215) : n < sizeLine := Nat.lt_of_lt_of_le (Nat.lt_succ_of_le h) line_big
/-! ### readings from the left -/
section
variable {K : PySem.W.Frag} {σ σ' : L2.St} {H H' : Hp} {Q : VK} {QB : Bool → Hp → Prop} {QA : List V → Hp → Prop} {ta tb tc te : TE} {t u : TT} {r r' : R2} {x y z v : V} {i : Nat} {a b : Int} {tr : TA} {D : Ends} {tS uS : TS} {P : Prop}
def NewO (Q : VK) (n : Nat) (o : HO) (H : Hp) : Prop := n ≤ sizeLine ∧ ∀ p, H p = none → Q (.ref p) (upd H p o)
def MkO (C : Addr) (sp : Sp) (E : XK) (Q : VK) (vs : List V) (H1 : Hp) : Prop := ∀ x dx, H1 x = none → H1 dx = none → dx ≠ x → sp (.ref x :: vs) (upd (upd H1 dx (.own x)) x (.ins C dx [])) (fun v H2 => v = .non ∧ Q (.ref x) H2) E
def RevO (K : PySem.W.Frag) (Q : VK) (x : V) (H1 : Hp) : Prop := ∃ a xs, x = .ref a ∧ SqL K H1 a xs ∧ ∀ p, H1 p = none → Q (.ref p) (upd H1 p (.lst xs.reverse))
theorem w_var (h : σ[i]? = some (some v)) (k : Q v H) : tVar i σ H Q := ⟨v, h, k⟩
theorem w_c (k : Q v H) : tC v σ H Q := k
theorem w_op (k : ta σ H fun x H1 => tb σ H1 fun y H2 => r x y H2 Q) : tOp r ta tb σ H Q := k
theorem w_un {f : V → Hp → VK → Prop} (k : ta σ H fun x H1 => f x H1 Q) : tUn f ta σ H Q := k
theorem w_nil (k : QA [] H) : tNil σ H QA := k
theorem w_cons (k : te σ H fun x H1 => tr σ H1 fun xs H2 => QA (x :: xs) H2) : tCons te tr σ H QA := k
theorem w_tup (k : tr σ H fun xs H1 => NewO Q xs.length (.tup xs) H1) : tTup tr σ H Q := k
theorem w_lst (k : tr σ H fun xs H1 => NewO Q xs.length (.lst xs) H1) : tLst tr σ H Q := k
theorem w_cb {f : List V → Hp → VK → Prop} (k : tr σ H fun vs H1 => f vs H1 Q) : tCB f tr σ H Q := k
theorem w_test (k : te σ H fun x H' => ∃ k, x = .bl k ∧ QB k H') : tTest te σ H QB := k
theorem w_B (k : te σ H fun x H' => ∃ k, x = .bl k ∧ QB k H') : tB te σ H QB := k
theorem w_and (k : t σ H fun c H1 => if c = true then u σ H1 QB else QB false H1) : tAnd t u σ H QB := k
theorem w_or (k : t σ H fun c H1 => if c = true then QB true H1 else u σ H1 QB) : tOr t u σ H QB := k
theorem w_not (k : t σ H fun c H1 => QB (!c) H1) : tNot t σ H QB := k
theorem w_andV (k : ta σ H fun x H1 => ∃ c, x = .bl c ∧ if c = true then tb σ H1 Q else Q (.bl false) H1) : tAndV ta tb σ H Q := k
theorem w_orV (k : ta σ H fun x H1 => ∃ c, x = .bl c ∧ if c = true then Q (.bl true) H1 else tb σ H1 Q) : tOrV ta tb σ H Q := k
theorem w_notV (k : ta σ H fun x H1 => ∃ c, x = .bl c ∧ Q (.bl (!c)) H1) : tNotV ta σ H Q := k
theorem w_ifE (k : t σ H fun c H1 => if c = true then ta σ H1 Q else tb σ H1 Q) : tIf t ta tb σ H Q := k
theorem w_chain (k : ta σ H fun x H1 => tb σ H1 fun y H2 => r x y H2 fun z H3 => ∃ k, z = .bl k ∧ (if k = true then tc σ H3 fun w' H4 => r' y w' H4 Q else Q (.bl false) H3)) : tChain r r' ta tb tc σ H Q := k
theorem w_fld {f : Str} (k : ta σ H fun x H1 => ∃ a C dx fs v, x = .ref a ∧ H1 a = some (.ins C dx fs) ∧ Cls K C ∧ NoAttr K C f ∧ fs.lookup f = some v ∧ Q v H1) : tFld K ta f σ H Q := k
theorem w_call {sp : Sp} {E : XK} (k : tr σ H fun vs H1 => sp vs H1 Q E) : tCall sp [] E tr σ H Q := by
  have e : (fun (vs : List V) (H1 : Hp) => sp (vs ++ []) H1 Q E) = fun vs H1 => sp vs H1 Q E := by
    funext vs H1
    rw [List.append_nil]
  show tr σ H (fun vs H1 => sp (vs ++ []) H1 Q E)
  rw [e]
  exact k
theorem w_meth {C : Addr} {m : Str} {sp : Sp} {E : XK} (k : ta σ H fun x H1 => ∃ a dx fs, x = .ref a ∧ H1 a = some (.ins C dx fs) ∧ fs.lookup m = none ∧ tr σ H1 fun vs H2 => sp (x :: vs) H2 Q E) : tMeth C m sp [] E ta tr σ H Q := by
  have e : ∀ x : V, (fun (vs : List V) (H2 : Hp) => sp (x :: (vs ++ [])) H2 Q E) = fun vs H2 => sp (x :: vs) H2 Q E := by
    intro x
    funext vs H2
    rw [List.append_nil]
  show ta σ H fun x H1 => ∃ a dx fs, x = .ref a ∧ H1 a = some (.ins C dx fs) ∧ fs.lookup m = none ∧ tr σ H1 fun vs H2 => sp (x :: (vs ++ [])) H2 Q E
  simp only [e]
  exact k
theorem w_make {C : Addr} {sp : Sp} {E : XK} (k : tr σ H fun vs H1 => MkO C sp E Q vs H1) : tMake C sp [] E tr σ H Q := by
  have e : (fun (vs : List V) (H1 : Hp) => ∀ x dx, H1 x = none → H1 dx = none → dx ≠ x → sp (.ref x :: (vs ++ [])) (upd (upd H1 dx (.own x)) x (.ins C dx [])) (fun v H2 => v = .non ∧ Q (.ref x) H2) E) = fun vs H1 => MkO C sp E Q vs H1 := by
    funext vs H1
    simp only [List.append_nil]
    rfl
  show tr σ H fun vs H1 => ∀ x dx, H1 x = none → H1 dx = none → dx ≠ x → sp (.ref x :: (vs ++ [])) (upd (upd H1 dx (.own x)) x (.ins C dx [])) (fun v H2 => v = .non ∧ Q (.ref x) H2) E
  rw [e]
  exact k
theorem w_sl {f : V → Option Int → Option Int → Hp → VK → Prop} {tl th : TO} (k : te σ H fun x H1 => tl σ H1 fun l H2 => th σ H2 fun u H3 => f x l u H3 Q) : tSl f te tl th σ H Q := k
theorem w_part {QO : Option Int → Hp → Prop} (k : te σ H fun x H1 => ∃ i, x = .int i ∧ QO (some i) H1) : tPart te σ H QO := k
theorem w_nopart {QO : Option Int → Hp → Prop} (k : QO none H) : tNoPart σ H QO := k
theorem w_bm {T : String} {f : V → List V → Hp → VK → Prop} (k : ta σ H fun x H1 => tyV K T x H1 ∧ tr σ H1 fun xs H2 => f x xs H2 Q) : tBM K T f ta tr σ H Q := k
theorem w_bm0 {T : String} {f : V → List V → Hp → VK → Prop} (k : ta σ H fun x H1 => tyV K T x H1 ∧ f x [] H1 Q) : tBM0 K T f ta σ H Q := k
theorem w_rev (k : te σ H fun x H1 => RevO K Q x H1) : tRevL K te σ H Q := k
theorem w_yes (k : QB true H) : tYes σ H QB := k
/-! statements -/
theorem w_seq (k : tS { D with nx := uS D } σ H) : tSeq tS uS D σ H := k
theorem w_asg (k : te σ H fun x H1 => D.nx (σ.set i (some x)) H1) : tAsg te (gName i) D σ H := k
theorem w_ifS (k : t σ H fun b H1 => if b = true then tS D σ H1 else uS D σ H1) : tIfS t tS uS D σ H := k
theorem w_ret (k : te σ H D.rt) : tRet te D σ H := k
theorem w_drop (k : te σ H fun _ H1 => D.nx σ H1) : tDrop te D σ H := k
theorem w_next (k : D.nx σ H) : tNext D σ H := k
theorem w_flds {tv : TE} {f : Str} (k : tv σ H fun y H1 => ta σ H1 fun x H2 => ∃ a C dx fs, x = .ref a ∧ H2 a = some (.ins C dx fs) ∧ Cls K C ∧ NoAttr K C f ∧ fs.length < 1000 ∧ D.nx σ (upd H2 a (.ins C dx (putF f y fs)))) : sFld K ta tv f D σ H := k
theorem set_0 {w : Option V} {l : L2.St} : (w :: l).set 0 (some v) = some v :: l := rfl
theorem set_s {w : Option V} {l l' : L2.St} {n : Nat} {q : Option V} (h : l.set n q = l') : (w :: l).set (n + 1) q = w :: l' := by rw [List.set_cons_succ, h]
theorem w_nx {f : L2.St → Hp → Prop} {q : Option V} (h : σ.set i q = σ') (k : f σ' H) : f (σ.set i q) H := h ▸ k
/-! values -/
theorem v_b {c : Bool} {q : Bool → Prop} (k : q c) : ∃ k, V.bl c = V.bl k ∧ q k := ⟨c, rfl, k⟩
theorem v_i {q : Int → Prop} (k : q a) : ∃ i, V.int a = V.int i ∧ q i := ⟨a, rfl, k⟩
theorem v_I0 {g : Int → Int → V} (k : Q (g a b) H) : rI0 g (.int a) (.int b) H Q := ⟨a, b, rfl, rfl, k⟩
theorem v_I {C : Int → Int → Prop} {g : Int → Int → V} (c : C a b) (k : Q (g a b) H) : rI C g (.int a) (.int b) H Q := ⟨a, b, rfl, rfl, c, k⟩
theorem v_U {g : Int → V} (k : Q (g a) H) : rU g (.int a) H Q := ⟨a, rfl, k⟩
theorem v_eqI (k : Q (.bl (decide (a = b))) H) : rEq (.int a) (.int b) H Q := ⟨rfl, by rw [show decide (V.int a = V.int b) = decide (a = b) from decide_eq_decide.mpr ⟨V.int.inj, congrArg _⟩]; exact k⟩
theorem v_neI (k : Q (.bl (!decide (a = b))) H) : rNe (.int a) (.int b) H Q := ⟨rfl, by rw [show decide (V.int a = V.int b) = decide (a = b) from decide_eq_decide.mpr ⟨V.int.inj, congrArg _⟩]; exact k⟩
theorem v_eqB {c d : Bool} (k : Q (.bl (c == d)) H) : rEq (.bl c) (.bl d) H Q := ⟨rfl, by rw [dec_bl]; exact k⟩
theorem v_neB {c d : Bool} (k : Q (.bl (!(c == d))) H) : rNe (.bl c) (.bl d) H Q := ⟨rfl, by rw [dec_bl]; exact k⟩
theorem v_ixL {p : Addr} {xs : List V} (h : SqL K H p xs) (e : atI xs a = some v) (k : Q v H) : rIxL K (.ref p) (.int a) H Q := ⟨p, xs, a, v, rfl, rfl, h, e, k⟩
theorem v_ixT {p : Addr} {xs : List V} (h : SqT K H p xs) (e : atI xs a = some v) (k : Q v H) : rIxT K (.ref p) (.int a) H Q := ⟨p, xs, a, v, rfl, rfl, h, e, k⟩
theorem v_new {o : HO} {q : V → Hp → Prop} (k : ∀ p H2, H p = none → Same H H2 → H2 p = some o → q (.ref p) H2) : ∀ p, H p = none → q (.ref p) (upd H p o) := fun p hp => k p _ hp (same_up hp) upd_same
theorem v_newL {o : HO} {n : Nat} (hz : n ≤ 16777215) (k : ∀ p H2, H p = none → Same H H2 → H2 p = some o → Q (.ref p) H2) : NewO Q n o H := ⟨fits hz, v_new k⟩
theorem v_ift {A B : Prop} {c : Bool} (h : c = true) (k : A) : if c = true then A else B := by rw [if_pos h]; exact k
theorem v_iff {A B : Prop} {c : Bool} (h : c = false) (k : B) : if c = true then A else B := by rw [if_neg (by rw [h]; exact Bool.false_ne_true)]; exact k
theorem v_if {A B : Prop} {c : Bool} (h1 : c = true → A) (h2 : c = false → B) : if c = true then A else B := by
  cases c with
  | true => exact h1 rfl
  | false => exact h2 rfl
theorem v_fld {o C dx : Addr} {fs : List (Str × V)} {f : Str} {q : V → Prop} (h : H o = some (.ins C dx fs)) (hc : Cls K C) (hn : NoAttr K C f) (hl : fs.lookup f = some v) (k : q v) :
    ∃ a C dx fs v, V.ref o = .ref a ∧ H a = some (.ins C dx fs) ∧ Cls K C ∧ NoAttr K C f ∧ fs.lookup f = some v ∧ q v := ⟨o, C, dx, fs, v, rfl, h, hc, hn, hl, k⟩
theorem v_meth {o C dx : Addr} {fs : List (Str × V)} {m : Str} {q : Prop} (h : H o = some (.ins C dx fs)) (hl : fs.lookup m = none) (k : q) : ∃ a dx fs, V.ref o = .ref a ∧ H a = some (.ins C dx fs) ∧ fs.lookup m = none ∧ q := ⟨o, dx, fs, rfl, h, hl, k⟩
/-- a value by and, or: the right side is asked in a like heap, its answer known -/
theorem v_andV {c d : Bool} (h : c = true → ∀ q : VK, (∀ H2, Same H H2 → q (.bl d) H2) → tb σ H q) (k : ∀ H2, Same H H2 → Q (.bl (c && d)) H2) : if c = true then tb σ H Q else Q (.bl false) H := by
  cases c with
  | true => exact h rfl Q k
  | false => exact k H (Same.refl H)
theorem v_orV {c d : Bool} (h : c = false → ∀ q : VK, (∀ H2, Same H H2 → q (.bl d) H2) → tb σ H q) (k : ∀ H2, Same H H2 → Q (.bl (c || d)) H2) : if c = true then Q (.bl true) H else tb σ H Q := by
  cases c with
  | true => exact k H (Same.refl H)
  | false => exact h rfl Q k
/-- the same for tests -/
theorem v_and {c d : Bool} (h : c = true → ∀ q : Bool → Hp → Prop, (∀ H2, Same H H2 → q d H2) → u σ H q) (k : ∀ H2, Same H H2 → QB (c && d) H2) : if c = true then u σ H QB else QB false H := by
  cases c with
  | true => exact h rfl QB k
  | false => exact k H (Same.refl H)
theorem v_or {c d : Bool} (h : c = false → ∀ q : Bool → Hp → Prop, (∀ H2, Same H H2 → q d H2) → u σ H q) (k : ∀ H2, Same H H2 → QB (c || d) H2) : if c = true then QB true H else u σ H QB := by
  cases c with
  | true => exact k H (Same.refl H)
  | false => exact h rfl QB k
/-- a chained comparison of ints -/
theorem v_ch {c d : Bool} (h : c = true → ∀ q' : VK, q' (.bl d) H → tc σ H fun w' H4 => r' y w' H4 q') (k : Q (.bl (c && d)) H) : if c = true then tc σ H fun w' H4 => r' y w' H4 Q else Q (.bl false) H := by
  cases c with
  | true => exact h rfl Q k
  | false => exact k
/-! built-ins -/
theorem v_sum {l : Addr} {ns : List Int} (h : SqL K H l (ns.map V.int)) (k : Q (.int ns.sum) H) : rSum K [.ref l] H Q := ⟨l, ns, rfl, h, k⟩
theorem v_all {l : Addr} {bs : List Bool} (h : SqL K H l (bs.map V.bl)) (k : Q (.bl (bs.all id)) H) : rAll K [.ref l] H Q := ⟨l, bs, rfl, h, k⟩
theorem v_any {l : Addr} {bs : List Bool} (h : SqL K H l (bs.map V.bl)) (k : Q (.bl (bs.any id)) H) : rAny K [.ref l] H Q := ⟨l, bs, rfl, h, k⟩
theorem v_sorted {l : Addr} {ns : List Int} (h : SqL K H l (ns.map V.int)) (k : ∀ p H2, H p = none → Same H H2 → H2 p = some (.lst ((srt ns).map V.int)) → Q (.ref p) H2) : rSortedI K [.ref l] H Q :=
  ⟨l, ns, rfl, h, fun ns' p hp hs hn => by rw [srt_uniq hp hs]; exact k p _ hn (same_up hn) upd_same⟩
theorem v_slice {l : Addr} {xs : List V} {lo hi : Option Int} (h : SqL K H l xs) (k : ∀ p H2, H p = none → Same H H2 → H2 p = some (.lst (cutV xs lo hi)) → Q (.ref p) H2) : rSlL K (.ref l) lo hi H Q := ⟨l, xs, rfl, h, v_new k⟩
theorem cut_from {α : Type} (f : α → V) (ns : List α) {i : Int} (h : 0 ≤ i) : cutV (ns.map f) (some i) none = (ns.drop i.toNat).map f := by
  obtain ⟨j, rfl⟩ := Int.eq_ofNat_of_zero_le h
  unfold cutV
  rw [HT.sIx_none, show HT.sIx (ns.map f).length 0 (some ((j : Nat) : Int)) = min j (ns.map f).length from HT.sIx_nat _ _ _, Int.toNat_natCast, List.length_map, ← List.map_drop, ← List.map_take]
  congr 1
  by_cases c : j ≤ ns.length
  · rw [Nat.min_eq_left c]
    refine List.take_of_length_le ?_
    rw [List.length_drop]
    omega
  · rw [Nat.min_eq_right (by omega), List.drop_of_length_le (Nat.le_refl _), List.drop_of_length_le (by omega), List.take_nil]
theorem cut_to {α : Type} (f : α → V) (ns : List α) {i : Int} (h : 0 ≤ i) : cutV (ns.map f) none (some i) = (ns.take i.toNat).map f := by
  obtain ⟨j, rfl⟩ := Int.eq_ofNat_of_zero_le h
  unfold cutV
  rw [HT.sIx_none, show HT.sIx (ns.map f).length (ns.map f).length (some ((j : Nat) : Int)) = min j (ns.map f).length from HT.sIx_nat _ _ _, Int.toNat_natCast, List.length_map, List.drop_zero, Nat.sub_zero, ← List.map_take]
  congr 1
  by_cases c : j ≤ ns.length
  · rw [Nat.min_eq_left c]
  · rw [Nat.min_eq_right (by omega), List.take_of_length_le (Nat.le_refl _), List.take_of_length_le (by omega)]
theorem v_sliceF {l : Addr} {ns : List Int} (h : SqL K H l (ns.map V.int)) (ha : 0 ≤ a) (k : ∀ p H2, H p = none → Same H H2 → H2 p = some (.lst ((ns.drop a.toNat).map V.int)) → Q (.ref p) H2) : rSlL K (.ref l) (some a) none H Q :=
  v_slice h fun p H2 h1 h2 h3 => k p H2 h1 h2 (by rw [← cut_from V.int ns ha]; exact h3)
theorem v_sliceT {l : Addr} {ns : List Int} (h : SqL K H l (ns.map V.int)) (ha : 0 ≤ a) (k : ∀ p H2, H p = none → Same H H2 → H2 p = some (.lst ((ns.take a.toNat).map V.int)) → Q (.ref p) H2) : rSlL K (.ref l) none (some a) H Q :=
  v_slice h fun p H2 h1 h2 h3 => k p H2 h1 h2 (by rw [← cut_to V.int ns ha]; exact h3)
theorem v_cat {l m : Addr} {ns ms : List Int} (h : H l = some (.lst (ns.map V.int))) (h' : H m = some (.lst (ms.map V.int))) (hz : ns.length + ms.length ≤ 16777215) (k : ∀ p H2, H p = none → Same H H2 → H2 p = some (.lst ((ns ++ ms).map V.int)) → Q (.ref p) H2) :
    rCat (.ref l) (.ref m) H Q := ⟨l, m, _, _, rfl, rfl, h, h', by rw [List.length_map, List.length_map]; exact fits hz, fun p hp => by rw [← List.map_append]; exact k p _ hp (same_up hp) upd_same⟩
theorem v_rev {l : Addr} {ns : List Int} (h : SqL K H l (ns.map V.int)) (k : ∀ p H2, H p = none → Same H H2 → H2 p = some (.lst (ns.reverse.map V.int)) → Q (.ref p) H2) :
    RevO K Q (.ref l) H := ⟨l, _, rfl, h, fun p hp => by rw [← List.map_reverse]; exact k p _ hp (same_up hp) upd_same⟩
def rLen (K : PySem.W.Frag) : List V → Hp → VK → Prop := fun xs H Q => ∃ p ys, xs = [.ref p] ∧ (SqL K H p ys ∨ SqT K H p ys) ∧ Q (.int ys.length) H
theorem call_lenK {X : Cx} : CallR X (.builtin "len") (rLen X.K) := call_len_seq
theorem v_len {l : Addr} {ns : List Int} (h : SqL K H l (ns.map V.int)) (k : Q (.int (ns.length : Int)) H) : rLen K [.ref l] H Q := ⟨l, _, rfl, .inl h, by rw [List.length_map]; exact k⟩
def rListOf (K : PySem.W.Frag) : List V → Hp → VK → Prop := fun xs H Q => ∃ p ys, xs = [.ref p] ∧ (SqL K H p ys ∨ SqT K H p ys) ∧ ∀ l, H l = none → Q (.ref l) (upd H l (.lst ys))
theorem call_listK {X : Cx} : CallR X (.type "list") (rListOf X.K) := call_list_of
theorem v_list {l : Addr} {ys : List V} (h : SqL K H l ys) (k : ∀ p H2, H p = none → Same H H2 → H2 p = some (.lst ys) → Q (.ref p) H2) : rListOf K [.ref l] H Q := ⟨l, ys, rfl, .inl h, v_new k⟩
/-- x in xs, ints -/
theorem inV_int (x : Int) (ns : List Int) : inV (.int x) (ns.map V.int) = decide (x ∈ ns) := by
  unfold inV
  rw [List.any_map]
  induction ns with
  | nil => rfl
  | cons a r ih =>
    rw [List.any_cons, ih]
    show ((a == x) || decide (x ∈ r)) = decide (x ∈ a :: r)
    by_cases h : x = a
    · subst h; simp
    · have : (a == x) = false := by simpa using fun e : a = x => h e.symm
      rw [this]; simp [h]
theorem flat_ints (ns : List Int) : (ns.map V.int).all flatV = true := by
  rw [List.all_map, List.all_eq_true]
  intro x _
  rfl
theorem v_in {l : Addr} {ns : List Int} (h : SqL K H l (ns.map V.int)) (k : Q (.bl (decide (a ∈ ns))) H) : rIn K false (.int a) (.ref l) H Q := ⟨l, _, rfl, .inl h, rfl, flat_ints ns, by rw [inV_int]; exact k⟩
theorem v_notIn {l : Addr} {ns : List Int} (h : SqL K H l (ns.map V.int)) (k : Q (.bl (!decide (a ∈ ns))) H) : rIn K true (.int a) (.ref l) H Q := ⟨l, _, rfl, .inl h, rfl, flat_ints ns, by rw [inV_int]; exact k⟩
/-- == of two lists of ints -/
theorem dp_ints {l : Addr} {ns : List Int} (h : SqL K H l (ns.map V.int)) : Dp K H (.ref l) (.list (ns.map PyData.int)) := by
  refine .lst h ?_
  clear h
  induction ns with
  | nil => exact .nil
  | cons a r ih => exact .cons (.int a) ih
theorem canLay_ints (ns : List Int) : PyData.canLayAll0 (ns.map PyData.int) = true := by
  induction ns with
  | nil => rfl
  | cons a r ih =>
    rw [List.map_cons]
    unfold PyData.canLayAll0
    rw [ih]
    rfl
theorem depth_ints (ns : List Int) : PyData.depthAll (ns.map PyData.int) = 0 := by
  induction ns with
  | nil => rfl
  | cons a r ih =>
    rw [List.map_cons]
    unfold PyData.depthAll
    rw [ih]
    rfl
theorem shaped_ints (ns : List Int) : SeqAt.shaped (.list (ns.map PyData.int)) = true := by
  unfold SeqAt.shaped PyData.canLay0 PyData.depth
  rw [canLay_ints, depth_ints]
  rfl
theorem eqvAll_ints : ∀ ns ms : List Int, PyData.eqvAll (ns.map PyData.int) (ms.map PyData.int) = decide (ns = ms)
  | [], [] => rfl
  | [], _ :: _ => rfl
  | _ :: _, [] => rfl
  | a :: r, b :: q => by
    rw [List.map_cons, List.map_cons]
    unfold PyData.eqvAll PyData.eqv
    rw [eqvAll_ints r q]
    by_cases h : a = b
    · subst h; simp
    · have : (a == b) = false := by simpa using h
      rw [this]; simp [h]
theorem eqv_ints (ns ms : List Int) : PyData.eqv (.list (ns.map PyData.int)) (.list (ms.map PyData.int)) = decide (ns = ms) := by
  unfold PyData.eqv
  exact eqvAll_ints ns ms
theorem v_eqL {l m : Addr} {ns ms : List Int} (h : SqL K H l (ns.map V.int)) (h' : SqL K H m (ms.map V.int)) (k : Q (.bl (decide (ns = ms))) H) : rEqD K (.ref l) (.ref m) H Q :=
  ⟨_, _, dp_ints h, dp_ints h', shaped_ints ns, shaped_ints ms, by rw [eqv_ints]; exact k⟩
theorem v_neL {l m : Addr} {ns ms : List Int} (h : SqL K H l (ns.map V.int)) (h' : SqL K H m (ms.map V.int)) (k : Q (.bl (!decide (ns = ms))) H) : rNeD K (.ref l) (.ref m) H Q :=
  ⟨_, _, dp_ints h, dp_ints h', shaped_ints ns, shaped_ints ms, by rw [eqv_ints]; exact k⟩
end

/-! ### loops over lists of ints, by what is left -/
def ForL (K : PySem.W.Frag) (g : TG) (tb : TS) (D : Ends) (σ : L2.St) (x : V) (H1 : Hp) : Prop := ∃ a, x = .ref a ∧ (∃ xs, SqL K H1 a xs) ∧ ∃ W : Nat → Nat → L2.St → Hp → Prop, (∃ m, W 0 m σ H1) ∧ ∀ i m σ H, W i m σ H →
  ((Itl K a).stop i H ∧ D.nx σ H) ∨ ((Itl K a).go i H ∧ ∃ N : L2.St → Hp → Prop, (∀ σ' H', N σ' H' → ∃ m', m' < m ∧ W (i + 1) m' σ' H') ∧ ∀ x H', (Itl K a).yld i H x H' → g x σ H' fun σ2 H2 => tb { D with nx := N, ct := N, bk := D.nx } σ2 H2)
section
variable {K : PySem.W.Frag} {σ : L2.St} {H : Hp} {tl : TE} {g : TG} {tb : TS} {D : Ends}
theorem w_for (k : tl σ H fun x H1 => ForL K g tb D σ x H1) : tFor (iList K tl) g tb D σ H := k
/-- over any list whose items are values of things -/
theorem v_forG {α : Type} {emb : α → V} {a : Addr} {ns : List α} (hS : SqL K H a (ns.map emb)) (Pv : List α → L2.St → Hp → Prop) (h0 : Pv ns σ H) (hP : ∀ r σ' H', Pv r σ' H' → SqL K H' a (ns.map emb))
    (hs : ∀ (pre : List α) n r σ' H', ns = pre ++ n :: r → Pv (n :: r) σ' H' → g (emb n) σ' H' fun σ2 H2 => tb { D with nx := Pv r, ct := Pv r, bk := D.nx } σ2 H2) (hd : ∀ σ' H', Pv [] σ' H' → D.nx σ' H') : ForL K g tb D σ (.ref a) H := by
  refine ⟨a, rfl, ⟨_, hS⟩, for_list (K := K) (a := a) (xs := ns.map emb) (fun i σ' H' => Pv (ns.drop i) σ' H') h0 (fun i σ' H' _ p => hP _ _ _ p) ?_ ?_⟩
  · intro i x σ' H' hx p
    rw [List.getElem?_map] at hx
    cases hn : ns[i]? with
    | none => rw [hn] at hx; cases hx
    | some n =>
      rw [hn] at hx
      have hx' : x = emb n := (Option.some.inj hx).symm
      subst hx'
      have hi : i < ns.length := (List.getElem?_eq_some_iff.mp hn).1
      have hv : ns[i] = n := (List.getElem?_eq_some_iff.mp hn).2
      have e : ns.drop i = n :: ns.drop (i + 1) := by rw [← hv]; exact List.drop_eq_getElem_cons hi
      rw [e] at p
      exact hs (ns.take i) n (ns.drop (i + 1)) σ' H' (by rw [← e, List.take_append_drop]) p
  · intro σ' H' p
    rw [List.length_map, List.drop_length] at p
    exact hd σ' H' p
theorem v_forI {a : Addr} {j : Nat} {ns : List Int} (hS : SqL K H a (ns.map V.int)) (Pv : List Int → L2.St → Hp → Prop) (h0 : Pv ns σ H) (hP : ∀ r σ' H', Pv r σ' H' → SqL K H' a (ns.map V.int))
    (hs : ∀ (pre : List Int) n r σ' H', ns = pre ++ n :: r → Pv (n :: r) σ' H' → tb { D with nx := Pv r, ct := Pv r, bk := D.nx } (σ'.set j (some (.int n))) H') (hd : ∀ σ' H', Pv [] σ' H' → D.nx σ' H') : ForL K (gName j) tb D σ (.ref a) H :=
  v_forG hS Pv h0 hP hs hd
end
/-! ### comprehensions -/
def LcL (K : PySem.W.Frag) (g : TG) (tt : TT) (te : TE) (vs : List Nat) (σ : L2.St) (Q : VK) (x : V) (H1 : Hp) : Prop := ∃ a, x = .ref a ∧ (∃ xs, SqL K H1 a xs) ∧ ∀ D, H1 D = none → ∃ W : Nat → Nat → Hp → Prop, (∃ m, W 0 m (upd H1 D (.lst []))) ∧ ∀ i m H, W i m H →
  ((Itl K a).stop i H ∧ Q (.ref D) H) ∨ ((Itl K a).go i H ∧ ∃ Nx : Hp → Prop, (∀ H', Nx H' → ∃ m', m' < m ∧ W (i + 1) m' H') ∧ ∀ x H', (Itl K a).yld i H x H' → g x (wipe σ vs) H' fun σ2 H2 => wipe σ2 vs = wipe σ vs ∧ tt σ2 H2 fun b H3 =>
    if b = true then te σ2 H3 fun y H4 => ∃ acc, H4 D = some (.lst acc) ∧ acc.length < sizeLine ∧ Nx (upd H4 D (.lst (acc ++ [y]))) else Nx H3)
section
variable {K : PySem.W.Frag} {σ : L2.St} {H : Hp} {Q : VK} {tl te : TE} {tt : TT} {g : TG} {vs : List Nat}
theorem w_lc (k : tl σ H fun x H1 => LcL K g tt te vs σ Q x H1) : tLc (iList K tl) g tt te vs σ H Q := k
theorem filter_take {α : Type} {ns : List α} {i : Nat} {n : α} (p : α → Bool) (h : ns[i]? = some n) : (ns.take (i + 1)).filter p = (ns.take i).filter p ++ if p n = true then [n] else [] := by
  rw [List.take_add_one, h, List.filter_append]
  congr 1
  show List.filter p [n] = _
  cases c : p n with
  | true => simp [c]
  | false => simp [c]
/-- [f x for x in xs if p x]: each turn's parts leave what stands and may make things -/
theorem v_lcG {α : Type} {emb : α → V} {a : Addr} {ns : List α} {σ2 : α → L2.St} {H0 : Hp} (p : α → Bool) (f : α → V) (hS : SqL K H a (ns.map emb)) (hz : ns.length ≤ 16777215)
    (hg : ∀ n H' (R : L2.St → Hp → Prop), n ∈ ns → Same H H' → (∀ H2, Same H' H2 → R (σ2 n) H2) → g (emb n) (wipe σ vs) H' R) (hw : ∀ n ∈ ns, wipe (σ2 n) vs = wipe σ vs)
    (ht : ∀ n H', n ∈ ns → Same H H' → ∀ R : Bool → Hp → Prop, (∀ H2, Same H' H2 → R (p n) H2) → tt (σ2 n) H' R)
    (he : ∀ n H', n ∈ ns → p n = true → Same H H' → ∀ R : VK, (∀ H2, Same H' H2 → R (f n) H2) → te (σ2 n) H' R)
    (k : ∀ D H2, H D = none → Same H H2 → H2 D = some (.lst ((ns.filter p).map f)) → Q (.ref D) H2) : LcL K g tt te vs σ Q (.ref a) H := by
  refine ⟨a, rfl, ⟨_, hS⟩, fun D hD => lc_list (K := K) (a := a) (xs := ns.map emb) (fun i H' => Same H H' ∧ H' D = some (.lst (((ns.take i).filter p).map f))) ⟨same_up hD, upd_same⟩ (fun i H' _ h => h.1.seq hS) ?_ ?_⟩
  · intro i x H' hx ⟨s1, d1⟩
    rw [List.getElem?_map] at hx
    cases hn : ns[i]? with
    | none => rw [hn] at hx; cases hx
    | some n =>
      rw [hn] at hx
      have hx' : x = emb n := (Option.some.inj hx).symm
      subst hx'
      have hi : i < ns.length := (List.getElem?_eq_some_iff.mp hn).1
      have hm : n ∈ ns := List.mem_of_getElem? hn
      have hl : (((ns.take i).filter p).map f).length < sizeLine := by
        refine fits_lt ?_
        rw [List.length_map]
        refine Nat.le_trans (List.length_filter_le _ _) ?_
        rw [List.length_take]
        omega
      refine hg n H' _ hm s1 fun H2 s2 => ⟨hw n hm, ?_⟩
      refine ht n H2 hm (s1.trans s2) _ fun H3 s3 => ?_
      have ft := filter_take p hn
      cases c : p n with
      | true =>
        rw [if_pos rfl]
        refine he n H3 hm c ((s1.trans s2).trans s3) _ fun H4 s4 => ?_
        rw [c, if_pos rfl] at ft
        refine ⟨_, s4 _ _ (s3 _ _ (s2 _ _ d1)), hl, same_mut (((s1.trans s2).trans s3).trans s4) hD, ?_⟩
        rw [upd_same, ft, List.map_append]
        rfl
      | false =>
        rw [if_neg Bool.false_ne_true]
        rw [c, if_neg Bool.false_ne_true, List.append_nil] at ft
        exact ⟨(s1.trans s2).trans s3, by rw [ft]; exact s3 _ _ (s2 _ _ d1)⟩
  · intro H' ⟨s1, d1⟩
    rw [List.length_map, List.take_length] at d1
    exact k D H' hD s1 d1
/-- over ints, the target a name -/
theorem v_lcI {a : Addr} {j : Nat} {ns : List Int} {σ2 : Int → L2.St} (p : Int → Bool) (f : Int → V) (hS : SqL K H a (ns.map V.int)) (hz : ns.length ≤ 16777215) (hσ : ∀ n, (wipe σ vs).set j (some (.int n)) = σ2 n) (hw : ∀ n ∈ ns, wipe (σ2 n) vs = wipe σ vs)
    (ht : ∀ n H', n ∈ ns → Same H H' → ∀ R : Bool → Hp → Prop, (∀ H2, Same H' H2 → R (p n) H2) → tt (σ2 n) H' R)
    (he : ∀ n H', n ∈ ns → p n = true → Same H H' → ∀ R : VK, (∀ H2, Same H' H2 → R (f n) H2) → te (σ2 n) H' R)
    (k : ∀ D H2, H D = none → Same H H2 → H2 D = some (.lst ((ns.filter p).map f)) → Q (.ref D) H2) : LcL K (gName j) tt te vs σ Q (.ref a) H :=
  v_lcG (σ2 := σ2) (H0 := H) p f hS hz (fun n H' R _ _ h => by
    show R ((wipe σ vs).set j (some (.int n))) H'
    rw [hσ]
    exact h H' (Same.refl _)) hw ht he k
theorem t_yes {H' : Hp} {R : Bool → Hp → Prop} {σ' : L2.St} (h : ∀ H2, Same H' H2 → R true H2) : tYes σ' H' R := h H' (Same.refl _)
theorem filter_yes {α : Type} (ns : List α) : ns.filter (fun _ => true) = ns := List.filter_eq_self.mpr fun _ _ => rfl
end
/-! ### defs, methods, makers by one thing each -/
structure At (K : PySem.W.Frag) (mg : Str → Option Value) (x : Str) (st : Stmt) (ps : List Str) (f : Addr) (fd : FuncData) : Prop where
  g : mg x = some (.ref f)
  F : Fun K x x st f fd
  b : Binds K fd ps []
structure FnAt (P : Program) (w : World) (K : PySem.W.Frag) (mg : Str → Option Value) (base : Heap) (CX : CXT) (k : Nat) (x : Str) (ps : List Str) (sp : Sp) (f : Addr) (fd : FuncData) : Prop where
  g : mg x = some (.ref f)
  kp : PySem.W.keepIn K (.ref f) = true
  b : Binds K fd ps []
  ok : FnOk P w K mg base CX k f fd ps sp
structure AtM (K : PySem.W.Frag) (C : Addr) (m q : Str) (st : Stmt) (ps : List Str) (f : Addr) (fd : FuncData) : Prop where
  me : Meth K C m f
  F : Fun K m q st f fd
  b : Binds K fd ps []
structure MtAt (P : Program) (w : World) (K : PySem.W.Frag) (mg : Str → Option Value) (base : Heap) (CX : CXT) (k : Nat) (C : Addr) (m : Str) (ps : List Str) (sp : Sp) (f : Addr) (fd : FuncData) : Prop where
  me : Meth K C m f
  b : Binds K fd ps []
  ok : FnOk P w K mg base CX k f fd ps sp
structure AtI (K : PySem.W.Frag) (mg : Str → Option Value) (C : Addr) (x q : Str) (st : Stmt) (ps : List Str) (f : Addr) (fd : FuncData) : Prop where
  g : mg x = some (.ref C)
  m : Mk K C f
  F : Fun K "__init__" q st f fd
  b : Binds K fd ps []
structure InAt (P : Program) (w : World) (K : PySem.W.Frag) (mg : Str → Option Value) (base : Heap) (CX : CXT) (k : Nat) (C : Addr) (x : Str) (ps : List Str) (sp : Sp) (f : Addr) (fd : FuncData) : Prop where
  g : mg x = some (.ref C)
  m : Mk K C f
  b : Binds K fd ps []
  ok : FnOk P w K mg base CX k f fd ps sp
/-- a class made without an __init__ of its own -/
structure Mk0 (K : PySem.W.Frag) (mg : Str → Option Value) (C : Addr) (x : Str) : Prop where
  g : mg x = some (.ref C)
  makes : PySem.W.makesIn K C = true
  init : PySem.W.findIn K (.ref C) "__init__" = some (some (.builtin "object.__init__"))
  kp : PySem.W.keepIn K (.ref C) = true
section
variable {X : Cx} {C : Addr} {x : Str} {p pos : PySem.Pos}
theorem run_make00 {pins : List (Addr × Obj)} {σ : L2.St} {H : Hp} {s : Shared} {Q : VK} (hm : PySem.W.makesIn X.K C = true) (hi : PySem.W.findIn X.K (.ref C) "__init__" = some (some (.builtin "object.__init__"))) (I : Inv X pins σ H s)
    (h : ∀ x dx, H x = none → H dx = none → dx ≠ x → Q (.ref x) (upd (upd H dx (.own x)) x (.ins C dx []))) : wpAny (model X.prog X.w) X.A (call (.ref C) []) (EP X pins σ Q) X.xe s := by
  have hq := h (s.heap.objs.size + 1) s.heap.objs.size (I.hok.fresh (Nat.le_succ _)) (I.hok.fresh (Nat.le_refl _)) (Nat.ne_of_lt (Nat.lt_succ_self _))
  have I2 := Inv.made (C := C) I
  have KI := I.kIn
  obtain ⟨hh, g, d, t, os⟩ := s
  have Y := PySem.W.makes_of (M := model X.prog X.w) KI hm
  refine wpAny_call (make_map0 KI hm hi (fun self => PySem.W.Looks.of_pure (PySem.W.oi_bind self)) ?_)
  have o1 : ((hh.push PySem.W.emptyDict).push (PySem.W.instObj C hh.objs.size)).get? (hh.objs.size + 1) = some (PySem.W.instObj C hh.objs.size) := by heap_get
  have t1 : PySem.W.Looks (model X.prog X.w) ((hh.push PySem.W.emptyDict).push (PySem.W.instObj C hh.objs.size)) (typeOf (.ref (hh.objs.size + 1))) (.ref C) := (PySem.W.Looks.ld o1).andThen .now
  have t2 : PySem.W.Looks (model X.prog X.w) ((hh.push PySem.W.emptyDict).push (PySem.W.instObj C hh.objs.size)) (isInstance (.ref (hh.objs.size + 1)) (.type "object")) true := t1.andThen (Y.top.keeps fun b o e => Heap.get?_push_of_some _ (Heap.get?_push_of_some _ e))
  refine codeAny_call_builtin PySem.W.oi_plain PySem.W.entry_oi (@PySem.W.check_slot (model X.prog X.w) _ _ _ "object.__init__" "object" "__init__" (.ref (hh.objs.size + 1)) [] [] _ PySem.W.oi_kind PySem.W.oi_split t2 (PySem.W.oi_args (.ref (hh.objs.size + 1))) ?_)
  rw [PySem.W.oi_run]
  exact wpAny_pure (And.intro rfl ⟨V.ref (hh.objs.size + 1), _, I2, rfl, hq⟩)
def tMake00 (C : Addr) : TE := fun _ H Q => ∀ x dx, H x = none → H dx = none → dx ≠ x → Q (.ref x) (upd (upd H dx (.own x)) x (.ins C dx []))
theorem pe_make00 (M : Mk0 X.K X.mg C x) (hg : Gl X x) (hdb : (x == ("__debug__" : Str)) = false := by decide) : PE X (.Call (.Name x p) [] [] pos) (tMake00 C) := by
  refine ⟨fun pins s σ H Q I h => ?_⟩
  refine wpAny_Call_Name_kw (ld_glob I hg M.g ?_ hdb)
  exact PySem.W.callWith_K0 I.kIn M.kp (run_make00 M.makes M.init I h)
/-- either of two readings -/
def tOr2 (t u : TE) : TE := fun σ H Q => t σ H Q ∨ u σ H Q
theorem pe_or2 {e : Expr} {t u : TE} (h : PE X e t) (k : PE X e u) : PE X e (tOr2 t u) := ⟨fun pins s σ H Q I z => z.elim (h.run pins s σ H Q I) (k.run pins s σ H Q I)⟩
end
theorem w_make00 {C : Addr} {σ : L2.St} {H : Hp} {Q : VK} (k : ∀ p dx H2, H p = none → Same H H2 → H2 p = some (.ins C dx []) → Q (.ref p) H2) : tMake00 C σ H Q := fun x dx hx hd ne =>
  k x dx _ hx (fun b o e => by rw [upd_ne (ne_of_none e hx), upd_ne (ne_of_none e hd)]; exact e) upd_same
/-- a new instance and its __init__ -/
theorem v_make {C : Addr} {vs : List V} {H : Hp} {Q : VK} {sp : Sp} {E : XK}
    (h : ∀ p dx H1, H p = none → Same H H1 → H1 p = some (.ins C dx []) → (∀ b, H1 b = none → H b = none) → sp (.ref p :: vs) H1 (fun v H2 => v = .non ∧ Q (.ref p) H2) E) :
    MkO C sp E Q vs H := fun x dx hx hd ne => by
  have s : Same H (upd (upd H dx (.own x)) x (.ins C dx [])) := fun b o e => by rw [upd_ne (ne_of_none e hx), upd_ne (ne_of_none e hd)]; exact e
  exact h x dx _ hx s upd_same fun b hb => s.free hb
/-! ### answers -/
/-- the value v, all that stood as it stood -/
def Ret (v : V) (H : Hp) (Q : VK) : Prop := ∀ H2, Same H H2 → Q v H2
/-- a new list of ints -/
def RetL (ns : List Int) (H : Hp) (Q : VK) : Prop := ∀ p H2, H p = none → Same H H2 → H2 p = some (.lst (ns.map V.int)) → Q (.ref p) H2
theorem Ret.go {v : V} {H H' : Hp} {Q : VK} (k : Ret v H Q) (e : Same H H') : Q v H' := k H' e
theorem Ret.goL {ns : List Int} {H H' H2 : Hp} {Q : VK} {p : Addr} (k : RetL ns H Q) (e : Same H H') (hp : H' p = none) (e2 : Same H' H2) (h : H2 p = some (.lst (ns.map V.int))) : Q (.ref p) H2 := k p H2 (e.free hp) (e.trans e2) h
/-! ### built-in names -/
theorem bt_len : bootBuiltins "len" = some (.builtin "len") := by decide +kernel
theorem bt_sum : bootBuiltins "sum" = some (.builtin "sum") := by decide +kernel
theorem bt_all : bootBuiltins "all" = some (.builtin "all") := by decide +kernel
theorem bt_any : bootBuiltins "any" = some (.builtin "any") := by decide +kernel
theorem bt_abs : bootBuiltins "abs" = some (.builtin "abs") := by decide +kernel
theorem bt_sorted : bootBuiltins "sorted" = some (.builtin "sorted") := by decide +kernel
theorem bt_isinstance : bootBuiltins "isinstance" = some (.builtin "isinstance") := by decide +kernel
theorem bt_int : bootBuiltins "int" = some (.type "int") := by decide +kernel
theorem bt_bool : bootBuiltins "bool" = some (.type "bool") := by decide +kernel
theorem bt_str : bootBuiltins "str" = some (.type "str") := by decide +kernel
theorem bt_list : bootBuiltins "list" = some (.type "list") := by decide +kernel
theorem bt_tuple : bootBuiltins "tuple" = some (.type "tuple") := by decide +kernel
theorem bt_set : bootBuiltins "set" = some (.type "set") := by decide +kernel
/-! ### isinstance -/
theorem v_isi {K : PySem.W.Frag} {H : Hp} {Q : VK} {x cl : V} {t u : Value} {b : Bool} (hc : ClsV cl u) (ht : TyX K H x t) (hk : PySem.W.kitOne K t u = some b) (k : Q (.bl b) H) : rIsi K [x, cl] H Q := ⟨x, cl, t, u, b, rfl, hc, ht, hk, k⟩
theorem tyx_list {K : PySem.W.Frag} {H : Hp} {a : Addr} {xs : List V} (h : SqL K H a xs) : TyX K H (.ref a) (.type "list") := by
  rcases h with (h | ⟨o, h⟩) | ⟨o, its, n, h1, h2, _⟩
  · exact .base (.lst h)
  · exact .base (.frz h)
  · exact .kList h1 h2
/-- what is known of a thing that is asked about -/
def Okd (K : PySem.W.Frag) (H : Hp) : V → Prop
  | .non => True
  | .bl _ => True
  | .int _ => True
  | .str _ => True
  | .ref a => ∃ n, TyX K H (.ref a) (.type n) ∧ (n = "list" ∨ n = "tuple" ∨ n = "dict")
  | _ => False
def isNum (x : V) (l : Int) : Bool := match x with
  | .int i => decide (l ≤ i)
  | _ => false
def isI : V → Bool
  | .int _ => true
  | .bl _ => true
  | _ => false
def isB : V → Bool
  | .bl _ => true
  | _ => false
def isI0 : V → Bool
  | .int _ => true
  | _ => false
theorem kb_bi : kitB "bool" "int" = some true := by decide +kernel
theorem kb_ii : kitB "int" "int" = some true := by decide +kernel
theorem kb_si : kitB "str" "int" = some false := by decide +kernel
theorem kb_bb : kitB "bool" "bool" = some true := by decide +kernel
theorem kb_ib : kitB "int" "bool" = some false := by decide +kernel
theorem kb_sb : kitB "str" "bool" = some false := by decide +kernel
theorem v_isInt {K : PySem.W.Frag} {H : Hp} {Q : VK} {x : V} (h : Okd K H x) (k : Q (.bl (isI x)) H) : rIsi K [x, .ty "int"] H Q := by
  cases x with
  | non => exact v_isi (.ty _) (.base .non) (kit_ty (by decide +kernel)) k
  | bl b => exact v_isi (.ty _) (.base (.bl b)) (kit_ty kb_bi) k
  | int i => exact v_isi (.ty _) (.base (.int i)) (kit_ty kb_ii) k
  | str z => exact v_isi (.ty _) (.base (.str z)) (kit_ty kb_si) k
  | ref a =>
    obtain ⟨n, ht, hn⟩ := h
    refine v_isi (.ty _) ht (kit_ty (r := false) ?_) k
    rcases hn with rfl | rfl | rfl <;> decide +kernel
  | byt _ => exact h.elim
  | flt _ => exact h.elim
  | ty _ => exact h.elim
theorem v_isBool {K : PySem.W.Frag} {H : Hp} {Q : VK} {x : V} (h : Okd K H x) (k : Q (.bl (isB x)) H) : rIsi K [x, .ty "bool"] H Q := by
  cases x with
  | non => exact v_isi (.ty _) (.base .non) (kit_ty (by decide +kernel)) k
  | bl b => exact v_isi (.ty _) (.base (.bl b)) (kit_ty kb_bb) k
  | int i => exact v_isi (.ty _) (.base (.int i)) (kit_ty kb_ib) k
  | str z => exact v_isi (.ty _) (.base (.str z)) (kit_ty kb_sb) k
  | ref a =>
    obtain ⟨n, ht, hn⟩ := h
    refine v_isi (.ty _) ht (kit_ty (r := false) ?_) k
    rcases hn with rfl | rfl | rfl <;> decide +kernel
  | byt _ => exact h.elim
  | flt _ => exact h.elim
  | ty _ => exact h.elim
/-! ### more -/
theorem kb_ll : kitB "list" "list" = some true := by decide +kernel
theorem lk1 {f : Str} {v : V} : List.lookup f [(f, v)] = some v := by simp [List.lookup]
theorem lk2a {f g : Str} {v u : V} : List.lookup f [(f, v), (g, u)] = some v := by simp [List.lookup]
theorem lk2b {f g : Str} {v u : V} (h : ¬ g = f) : List.lookup g [(f, v), (g, u)] = some u := by
  have e : (g == f) = false := by simpa using h
  simp [List.lookup, e]
theorem lk1n {f g : Str} {v : V} (h : ¬ g = f) : List.lookup g [(f, v)] = none := by
  have e : (g == f) = false := by simpa using h
  simp [List.lookup, e]
theorem lk2n {f g m : Str} {v u : V} (h : ¬ m = f) (h' : ¬ m = g) : List.lookup m [(f, v), (g, u)] = none := by
  have e : (m == f) = false := by simpa using h
  have e' : (m == g) = false := by simpa using h'
  simp [List.lookup, e, e']
theorem all_map (ns : List Int) (p : Int → Bool) : (ns.map p).all id = ns.all p := by
  rw [List.all_map]
  rfl
theorem any_map (ns : List Int) (p : Int → Bool) : (ns.map p).any id = ns.any p := by
  rw [List.any_map]
  rfl
theorem map_bl {α : Type} (ns : List α) (p : α → Bool) : ns.map (fun n => V.bl (p n)) = (ns.map p).map V.bl := by
  rw [List.map_map]
  rfl
theorem map_int {α : Type} (ns : List α) (p : α → Int) : ns.map (fun n => V.int (p n)) = (ns.map p).map V.int := by
  rw [List.map_map]
  rfl
theorem at_get {ns : List Int} {j : Int} (h0 : 0 ≤ j) (h1 : j < ns.length) : atI (ns.map V.int) j = some (.int (ns.getD j.toNat 0)) := by
  obtain ⟨i, rfl⟩ := Int.eq_ofNat_of_zero_le h0
  have hi : i < ns.length := by omega
  refine atI_nat ?_
  rw [List.getElem?_map, List.getElem?_eq_getElem hi, Int.toNat_natCast, List.getD_eq_getElem?_getD, List.getElem?_eq_getElem hi]
  rfl
theorem getD_mem {ns : List Int} {j : Nat} (h1 : j < ns.length) : ns.getD j 0 ∈ ns := by
  rw [List.getD_eq_getElem?_getD, List.getElem?_eq_getElem h1]
  exact List.getElem_mem h1
section
variable {K : PySem.W.Frag} {σ : L2.St} {H : Hp} {Q : VK} {ta te : TE} {tr : TA} {tt : TT} {g : TG} {vs : List Nat} {D : Ends} {tb : TS}
theorem v_app {l : Addr} {xs : List V} {v : V} (hl : H l = some (.lst xs)) (hz : xs.length ≤ 16777214) (k : Q .non (upd H l (.lst (xs ++ [v])))) : rAppend (.ref l) [v] H Q := ⟨l, xs, v, rfl, rfl, hl, fits_lt (by omega), k⟩
theorem v_ty {l : Addr} {xs : List V} {P : Prop} (h : SqL K H l xs) (k : P) : tyV K "list" (.ref l) H ∧ P := ⟨.inl ⟨rfl, _, h⟩, k⟩
/-- [f i for i in range(n)] -/
def LcR (g : TG) (tt : TT) (te : TE) (vs : List Nat) (σ : L2.St) (Q : VK) (ws : List V) (H1 : Hp) : Prop := ∃ j : Int, ws = [.int j] ∧ -(2 ^ 62) ≤ j ∧ j < 2 ^ 62 ∧ ∀ D, H1 D = none → ∃ W : Nat → Nat → Hp → Prop, (∃ m, W 0 m (upd H1 D (.lst []))) ∧ ∀ i m H, W i m H →
  ((Itr 0 j.toNat).stop i H ∧ Q (.ref D) H) ∨ ((Itr 0 j.toNat).go i H ∧ ∃ Nx : Hp → Prop, (∀ H', Nx H' → ∃ m', m' < m ∧ W (i + 1) m' H') ∧ ∀ x H', (Itr 0 j.toNat).yld i H x H' → g x (wipe σ vs) H' fun σ2 H2 => wipe σ2 vs = wipe σ vs ∧ tt σ2 H2 fun b H3 =>
    if b = true then te σ2 H3 fun y H4 => ∃ acc, H4 D = some (.lst acc) ∧ acc.length < sizeLine ∧ Nx (upd H4 D (.lst (acc ++ [y]))) else Nx H3)
theorem w_lcR (k : tr σ H fun x H1 => LcR g tt te vs σ Q x H1) : tLc (iRng1 tr) g tt te vs σ H Q := k
theorem v_lcR {j : Nat} {n : Int} {σ2 : Nat → L2.St} (p : Nat → Bool) (f : Nat → V) (hz : n ≤ 16777215) (h0 : 0 ≤ n) (hσ : ∀ i : Nat, (wipe σ vs).set j (some (.int (i : Int))) = σ2 i) (hw : ∀ i, wipe (σ2 i) vs = wipe σ vs)
    (ht : ∀ (i : Nat) (H' : Hp), (i : Int) < n → Same H H' → ∀ R : Bool → Hp → Prop, (∀ H2, Same H' H2 → R (p i) H2) → tt (σ2 i) H' R)
    (he : ∀ (i : Nat) (H' : Hp), (i : Int) < n → p i = true → Same H H' → ∀ R : VK, (∀ H2, Same H' H2 → R (f i) H2) → te (σ2 i) H' R)
    (k : ∀ D H2, H D = none → Same H H2 → H2 D = some (.lst (((List.range n.toNat).filter p).map f)) → Q (.ref D) H2) : LcR (gName j) tt te vs σ Q [.int n] H := by
  refine ⟨n, rfl, by omega, by omega, fun D hD => lc_range (lo := 0) (n := n.toNat) (fun i H' => Same H H' ∧ H' D = some (.lst (((List.range i).filter p).map f))) ⟨same_up hD, upd_same⟩ ?_ ?_⟩
  · intro i H' hi ⟨s1, d1⟩
    have hl : (((List.range i).filter p).map f).length < sizeLine := by
      refine fits_lt ?_
      rw [List.length_map]
      refine Nat.le_trans (List.length_filter_le _ _) ?_
      rw [List.length_range]
      omega
    have ez : (0 : Int) + (i : Int) = (i : Int) := by omega
    show wipe ((wipe σ vs).set j (some (.int ((0 : Int) + (i : Int))))) vs = wipe σ vs ∧ tt ((wipe σ vs).set j (some (.int ((0 : Int) + (i : Int))))) H' _
    rw [ez, hσ i]
    refine ⟨hw i, ?_⟩
    have hin : (i : Int) < n := by omega
    refine ht i H' hin s1 _ fun H3 s3 => ?_
    have er : (List.range (i + 1)).filter p = (List.range i).filter p ++ if p i = true then [i] else [] := by
      rw [List.range_succ, List.filter_append]
      congr 1
      cases c : p i with
      | true => simp [c]
      | false => simp [c]
    cases c : p i with
    | true =>
      rw [if_pos rfl]
      refine he i H3 hin c (s1.trans s3) _ fun H4 s4 => ?_
      rw [c, if_pos rfl] at er
      refine ⟨_, s4 _ _ (s3 _ _ d1), hl, same_mut ((s1.trans s3).trans s4) hD, ?_⟩
      rw [upd_same, er, List.map_append]
      rfl
    | false =>
      rw [if_neg Bool.false_ne_true]
      rw [c, if_neg Bool.false_ne_true, List.append_nil] at er
      exact ⟨s1.trans s3, by rw [er]; exact s3 _ _ d1⟩
  · intro H' ⟨s1, d1⟩
    exact k D H' hD s1 d1
end
theorem w_cut {t u : TS} {D : Ends} {σ : L2.St} {H : Hp} (M : L2.St → Hp → Prop) (h : t { D with nx := M } σ H) (k : ∀ σ' H', M σ' H' → u D σ' H') : Evl.tCut t u D σ H := ⟨M, h, k⟩
theorem g_pair {K : PySem.W.Frag} {i j : Nat} {t : Addr} {x y : V} {σ : L2.St} {H : Hp} {Q : L2.St → Hp → Prop} (h : SqT K H t [x, y]) (k : Q ((σ.set i (some x)).set j (some y)) H) : gTup K 2 (gCons (gName i) (gCons (gName j) gNil)) (.ref t) σ H Q :=
  ⟨t, [x, y], rfl, h, rfl, x, [y], rfl, y, [], rfl, rfl, k⟩
/-! ### sizes of the script -/
def AA : Nat := 1048576
def BB : Nat := 1048582
theorem nat_lt_bits {z : Int} (h : Builtin.Int.intBits z ≤ AA) : z.natAbs < 2 ^ AA := by
  by_cases c : z.natAbs = 0
  · rw [c]
    exact Nat.two_pow_pos _
  · unfold Builtin.Int.intBits at h
    have hz : (z == 0) = false := by simpa using fun e : z = 0 => c (by rw [e]; rfl)
    rw [hz] at h
    have h' : z.natAbs.log2 + 1 ≤ AA := h
    exact (Nat.log2_lt c).mp (by omega)
theorem sum_abs {A : Nat} : ∀ {ns : List Int}, (∀ z ∈ ns, z.natAbs < 2 ^ A) → ns.sum.natAbs ≤ ns.length * 2 ^ A
  | [], _ => by simp
  | a :: r, h => by
    have h1 := h a List.mem_cons_self
    have h2 := sum_abs (ns := r) fun z hz => h z (List.mem_cons_of_mem _ hz)
    rw [List.sum_cons, List.length_cons, Nat.add_mul, Nat.one_mul]
    have := Int.natAbs_add_le a r.sum
    omega
theorem sum_bits {ns : List Int} (hl : ns.length ≤ 63) (h : ∀ z ∈ ns, Builtin.Int.intBits z ≤ AA) : ns.sum.natAbs < 2 ^ BB := by
  have h1 := sum_abs (A := AA) fun z hz => nat_lt_bits (h z hz)
  have e : 2 ^ BB = 2 ^ AA * 64 := by
    show 2 ^ (AA + 6) = _
    rw [Nat.pow_add]
  have h2 : ns.length * 2 ^ AA ≤ 63 * 2 ^ AA := Nat.mul_le_mul_right _ hl
  have h3 := Nat.two_pow_pos AA
  rw [e]
  omega
theorem sq_mul {i : Int} (h : i.natAbs < 2 ^ BB) : CMulX i i := mulx_ok h h (by decide)
theorem kit_of {K : PySem.W.Frag} {C D : Addr} {b : Bool} (h1 : PySem.W.isClsIn K D = true) (h2 : PySem.W.typeIn K (.ref D) = some (.type "type")) (h3 : PySem.W.subIn K (.ref C) (.ref D) = some b) (h4 : PySem.W.subIn K (.ref D) (.ref D) = some true) : PySem.W.kitOne K (.ref C) (.ref D) = some b := by
  unfold PySem.W.kitOne
  by_cases e : (Value.ref C == Value.ref D) = true
  · rw [if_pos e]
    have e' : Value.ref C = Value.ref D := beq_iff_eq.mp e
    rw [e'] at h3
    exact h4.symm.trans h3
  · rw [if_neg e]
    unfold PySem.W.kitCls
    have h1' : (PySem.W.clsIn K D).isSome = true := h1
    show (if ((PySem.W.clsIn K D).isSome && PySem.W.typeIn K (.ref D) == some (.type "type")) = true then PySem.W.subIn K (.ref C) (.ref D) else none) = some b
    rw [h1', h2]
    exact (if_pos (by rfl)).trans h3
/-! ### slices in the middle, while, fields -/
theorem cut_mid {α : Type} (f : α → V) (ns : List α) {i j : Int} (h : 0 ≤ i) (h2 : i ≤ j) : cutV (ns.map f) (some i) (some j) = ((ns.drop i.toNat).take (j.toNat - i.toNat)).map f := by
  obtain ⟨a, rfl⟩ := Int.eq_ofNat_of_zero_le h
  obtain ⟨b, rfl⟩ := Int.eq_ofNat_of_zero_le (Int.le_trans h h2)
  unfold cutV
  rw [show HT.sIx (ns.map f).length 0 (some ((a : Nat) : Int)) = min a (ns.map f).length from HT.sIx_nat _ _ _, show HT.sIx (ns.map f).length (ns.map f).length (some ((b : Nat) : Int)) = min b (ns.map f).length from HT.sIx_nat _ _ _, Int.toNat_natCast, Int.toNat_natCast, List.length_map, ← List.map_drop, ← List.map_take]
  congr 1
  by_cases c : a ≤ ns.length
  · rw [Nat.min_eq_left c]
    by_cases d : b ≤ ns.length
    · rw [Nat.min_eq_left d]
    · rw [Nat.min_eq_right (by omega), List.take_of_length_le (by rw [List.length_drop]; omega), List.take_of_length_le (by rw [List.length_drop]; omega)]
  · rw [Nat.min_eq_right (show ns.length ≤ a by omega), List.drop_of_length_le (Nat.le_refl _), List.drop_of_length_le (show ns.length ≤ a by omega), List.take_nil, List.take_nil]
section
variable {K : PySem.W.Frag} {σ : L2.St} {H : Hp} {Q : VK} {a b : Int} {t : TT} {tb : TS} {D : Ends}
theorem v_sliceM {l : Addr} {ns : List Int} (h : SqL K H l (ns.map V.int)) (ha : 0 ≤ a) (hb : a ≤ b) (k : ∀ p H2, H p = none → Same H H2 → H2 p = some (.lst (((ns.drop a.toNat).take (b.toNat - a.toNat)).map V.int)) → Q (.ref p) H2) : rSlL K (.ref l) (some a) (some b) H Q :=
  v_slice h fun p H2 h1 h2 h3 => k p H2 h1 h2 (by rw [← cut_mid V.int ns ha hb]; exact h3)
theorem w_while (Pv : Nat → L2.St → Hp → Prop) (m0 : Nat) (h0 : Pv m0 σ H)
    (hs : ∀ m σ' H', Pv m σ' H' → t σ' H' fun b H1 => if b = true then ∃ N : L2.St → Hp → Prop, (∀ σ2 H2, N σ2 H2 → ∃ m', m' < m ∧ Pv m' σ2 H2) ∧ tb { D with nx := N, ct := N, bk := D.nx } σ' H1 else D.nx σ' H1) : tWhile t tb D σ H := ⟨Pv, ⟨m0, h0⟩, hs⟩
theorem v_turn {Pv : Nat → L2.St → Hp → Prop} {m : Nat} (k : tb { D with nx := fun σ2 H2 => ∃ m', m' < m ∧ Pv m' σ2 H2, ct := fun σ2 H2 => ∃ m', m' < m ∧ Pv m' σ2 H2, bk := D.nx } σ H) :
    ∃ N : L2.St → Hp → Prop, (∀ σ2 H2, N σ2 H2 → ∃ m', m' < m ∧ Pv m' σ2 H2) ∧ tb { D with nx := N, ct := N, bk := D.nx } σ H := ⟨_, fun _ _ h => h, k⟩
end
/-- the fields of an instance, set one by one -/
theorem putF_two {f g : Str} {v u : V} (h : ¬ f = g) : putF g u (putF f v []) = [(f, v), (g, u)] := by
  show (if f = g then (f, u) :: [] else (f, v) :: putF g u []) = _
  rw [if_neg h]
  rfl
theorem drop_take_one {ns : List Int} {i : Nat} {m : Int} : decide ((ns.drop i).take 1 = [m]) = decide ((ns.drop i).head? = some m) := by
  cases ns.drop i with
  | nil => simp
  | cons a r => simp
theorem v_pop0 {l : Addr} {y : V} {r : List V} {H : Hp} {Q : VK} (hl : H l = some (.lst (y :: r))) (k : Q y (upd H l (.lst r))) : rPopAt (.ref l) [.int 0] H Q :=
  ⟨l, y :: r, 0, 0, y, rfl, rfl, hl, by decide, by decide, by unfold seqIndex?; simp, rfl, k⟩
theorem v_pop {l : Addr} {y : V} {r : List V} {H : Hp} {Q : VK} (hl : H l = some (.lst (r ++ [y]))) (k : Q y (upd H l (.lst r))) : rPop (.ref l) [] H Q :=
  ⟨l, r ++ [y], y, rfl, rfl, hl, by simp, by rw [List.dropLast_concat]; exact k⟩
theorem take_one_head {ns : List Int} {m : Int} : decide (ns.take 1 = [m]) = decide (ns.head? = some m) := by
  cases ns with
  | nil => simp
  | cons a r => simp
/-! ### comprehensions over enumerate, zip -/
theorem lc_it {J : It} {n : Nat} {g : TG} {tt : TT} {te : TE} {vs : List Nat} {σ : L2.St} {H1 : Hp} {D : Addr} {Qd : Hp → Prop} (Pv : Nat → Hp → Prop) (h0 : Pv 0 (upd H1 D (.lst []))) (hgo : ∀ i H, i < n → Pv i H → J.go i H) (hst : ∀ H, Pv n H → J.stop n H)
    (hs : ∀ i x H H', i < n → Pv i H → J.yld i H x H' → g x (wipe σ vs) H' fun σ2 H2 => wipe σ2 vs = wipe σ vs ∧ tt σ2 H2 fun b H3 =>
      if b = true then te σ2 H3 fun y H4 => ∃ acc, H4 D = some (.lst acc) ∧ acc.length < sizeLine ∧ Pv (i + 1) (upd H4 D (.lst (acc ++ [y]))) else Pv (i + 1) H3) (hd : ∀ H, Pv n H → Qd H) :
    ∃ W : Nat → Nat → Hp → Prop, (∃ m, W 0 m (upd H1 D (.lst []))) ∧ ∀ i m H, W i m H →
      (J.stop i H ∧ Qd H) ∨ (J.go i H ∧ ∃ Nx : Hp → Prop, (∀ H', Nx H' → ∃ m', m' < m ∧ W (i + 1) m' H') ∧ ∀ x H', J.yld i H x H' → g x (wipe σ vs) H' fun σ2 H2 => wipe σ2 vs = wipe σ vs ∧ tt σ2 H2 fun b H3 =>
        if b = true then te σ2 H3 fun y H4 => ∃ acc, H4 D = some (.lst acc) ∧ acc.length < sizeLine ∧ Nx (upd H4 D (.lst (acc ++ [y]))) else Nx H3) := by
  refine ⟨fun i m H => m = n - i ∧ i ≤ n ∧ Pv i H, ⟨n, rfl, Nat.zero_le _, h0⟩, ?_⟩
  rintro i m H ⟨rfl, hi, p⟩
  by_cases hlt : i < n
  · exact .inr ⟨hgo i H hlt p, Pv (i + 1), fun H' p' => ⟨n - (i + 1), by omega, rfl, hlt, p'⟩, fun x H' y => hs i x H H' hlt p y⟩
  · obtain rfl : i = n := by omega
    exact .inl ⟨hst H p, hd H p⟩
def LcE (K : PySem.W.Frag) (g : TG) (tt : TT) (te : TE) (vs : List Nat) (σ : L2.St) (Q : VK) (ws : List V) (H1 : Hp) : Prop := ∃ a xs, ws = [.ref a] ∧ SqL K H1 a xs ∧ ∀ D, H1 D = none → ∃ W : Nat → Nat → Hp → Prop, (∃ m, W 0 m (upd H1 D (.lst []))) ∧ ∀ i m H, W i m H →
  ((Ite K a).stop i H ∧ Q (.ref D) H) ∨ ((Ite K a).go i H ∧ ∃ Nx : Hp → Prop, (∀ H', Nx H' → ∃ m', m' < m ∧ W (i + 1) m' H') ∧ ∀ x H', (Ite K a).yld i H x H' → g x (wipe σ vs) H' fun σ2 H2 => wipe σ2 vs = wipe σ vs ∧ tt σ2 H2 fun b H3 =>
    if b = true then te σ2 H3 fun y H4 => ∃ acc, H4 D = some (.lst acc) ∧ acc.length < sizeLine ∧ Nx (upd H4 D (.lst (acc ++ [y]))) else Nx H3)
section
variable {K : PySem.W.Frag} {σ : L2.St} {H : Hp} {Q : VK} {te : TE} {tr : TA} {g : TG} {vs : List Nat}
theorem w_lcE {tt : TT} (k : tr σ H fun x H1 => LcE K g tt te vs σ Q x H1) : tLc (iEnum K tr) g tt te vs σ H Q := k
theorem v_lcE {a : Addr} {i1 i2 : Nat} {ns : List Int} {σ2 : Nat → Int → L2.St} (Rel : Nat → Int → V → Hp → Prop) (hS : SqL K H a (ns.map V.int)) (hz : ns.length ≤ 16777215)
    (hσ : ∀ (i : Nat) n, ((wipe σ vs).set i1 (some (.int (i : Int)))).set i2 (some (.int n)) = σ2 i n) (hw : ∀ i n, wipe (σ2 i n) vs = wipe σ vs)
    (mono : ∀ i n y H1 H2, Same H1 H2 → Rel i n y H1 → Rel i n y H2) (stb : ∀ i n y H1 D xs xs', H1 D = some (.lst xs) → Rel i n y H1 → Rel i n y (upd H1 D (.lst xs')))
    (he : ∀ i n H', ns[i]? = some n → Same H H' → ∀ R : VK, (∀ y H2, Same H' H2 → Rel i n y H2 → R y H2) → te (σ2 i n) H' R)
    (k : ∀ D H2 ys, H D = none → Same H H2 → H2 D = some (.lst ys) → ys.length = ns.length → (∀ (i : Nat) n y, ns[i]? = some n → ys[i]? = some y → Rel i n y H2) → Q (.ref D) H2) :
    LcE K (gTup K 2 (gCons (gName i1) (gCons (gName i2) gNil))) tYes te vs σ Q [.ref a] H := by
  refine ⟨a, _, rfl, hS, fun D hD => lc_it (J := Ite K a) (n := ns.length) (fun i H' => Same H H' ∧ ∃ ys, H' D = some (.lst ys) ∧ ys.length = i ∧ ∀ (j : Nat) n y, ns[j]? = some n → ys[j]? = some y → Rel j n y H') ⟨same_up hD, [], upd_same, rfl, fun j n y _ h => by simp at h⟩ ?_ ?_ ?_ ?_⟩
  · rintro i H' hi ⟨s, _⟩
    exact ⟨_, _, s.seq hS, by rw [List.getElem?_map, List.getElem?_eq_getElem hi]; rfl⟩
  · rintro H' ⟨s, _⟩
    exact ⟨_, s.seq hS, by rw [List.length_map]; exact Nat.le_refl _⟩
  · rintro i x H' H'' hi ⟨s, ys, d, hl, hr⟩ ⟨T, y, rfl, nT, rfl, hy⟩
    have e := hy _ (s.seq hS)
    rw [List.getElem?_map, List.getElem?_eq_getElem hi] at e
    have e' : V.int ns[i] = y := Option.some.inj e
    subst e'
    have sT := same_up (o := .tup [.int (i : Int), .int ns[i]]) nT
    refine g_pair (st_h upd_same) ?_
    rw [hσ]
    refine ⟨hw _ _, ?_⟩
    refine w_yes ?_
    refine v_ift rfl ?_
    refine he i ns[i] _ (List.getElem?_eq_getElem hi) (s.trans sT) _ fun y H4 s4 hR => ?_
    have s4' := (s.trans sT).trans s4
    have d4 := s4 _ _ (sT _ _ d)
    refine ⟨ys, d4, fits_lt (by omega), same_mut s4' hD, ys ++ [y], upd_same, by rw [List.length_append, hl]; rfl, ?_⟩
    intro j n z hn hzz
    by_cases hj : j < ys.length
    · rw [List.getElem?_append_left hj] at hzz
      exact stb _ _ _ _ _ _ _ d4 (mono _ _ _ _ _ (sT.trans s4) (hr j n z hn hzz))
    · have hj2 : j < (ys ++ [y]).length := (List.getElem?_eq_some_iff.mp hzz).1
      rw [List.length_append, List.length_singleton] at hj2
      have hj3 : j = i := by omega
      subst hj3
      rw [List.getElem?_append_right (by omega), hl, Nat.sub_self] at hzz
      have hz2 : y = z := Option.some.inj hzz
      subst hz2
      rw [List.getElem?_eq_getElem hi] at hn
      have hn2 : ns[j] = n := Option.some.inj hn
      subst hn2
      exact stb _ _ _ _ _ _ _ d4 hR
  · rintro H' ⟨s, ys, d, hl, hr⟩
    exact k D H' ys hD s d hl hr
end
/-- a pair of ints stands at v -/
def PairAt (H : Hp) (v : V) (x y : Int) : Prop := ∃ t, v = .ref t ∧ H t = some (.tup [.int x, .int y])
theorem PairAt.same {H H' : Hp} {v : V} {x y : Int} (e : Same H H') : PairAt H v x y → PairAt H' v x y := fun ⟨t, h1, h2⟩ => ⟨t, h1, e _ _ h2⟩
theorem PairAt.stay {H : Hp} {v : V} {x y : Int} {D : Addr} {xs xs' : List V} (hD : H D = some (.lst xs)) : PairAt H v x y → PairAt (upd H D (.lst xs')) v x y := fun ⟨t, h1, h2⟩ =>
  ⟨t, h1, by rw [upd_ne (ne_of h2 hD (by intro z; cases z))]; exact h2⟩
def kf (H : Hp) : V → Int × Int
  | .ref t => match H t with
    | some (.tup [.int a, .int b]) => (a, b)
    | _ => (0, 0)
  | _ => (0, 0)
theorem PairAt.kf {H : Hp} {v : V} {x y : Int} (h : PairAt H v x y) : kf H v = (x, y) := by
  obtain ⟨t, rfl, h2⟩ := h
  unfold Wt.kf
  simp only [h2]
/-- sorted, of pairs of ints: the one list -/
theorem v_sortedP {K : PySem.W.Frag} {H : Hp} {Q : VK} {l : Addr} {xs : List V} {ps : List (Int × Int)} (h : SqL K H l xs) (hl : xs.length = ps.length) (hp : ∀ (i : Nat) v q, xs[i]? = some v → ps[i]? = some q → PairAt H v q.1 q.2)
    (k : ∀ p H2 ys, H p = none → Same H H2 → H2 p = some (.lst ys) → (∀ y ∈ ys, PairAt H2 y (kf H y).1 (kf H y).2) → ys.map (kf H) = srtP ps → Q (.ref p) H2) : rSortedPO K [.ref l] H Q := by
  have hx : xs.map (kf H) = ps := by
    refine List.ext_getElem? fun i => ?_
    rw [List.getElem?_map]
    by_cases hi : i < xs.length
    · rw [List.getElem?_eq_getElem hi, List.getElem?_eq_getElem (show i < ps.length by omega)]
      show some (kf H xs[i]) = _
      rw [(hp i _ _ (List.getElem?_eq_getElem hi) (List.getElem?_eq_getElem (show i < ps.length by omega))).kf]
    · rw [List.getElem?_eq_none (by omega), List.getElem?_eq_none (by omega)]
      rfl
  have hm : ∀ x ∈ xs, PairAt H x (kf H x).1 (kf H x).2 := by
    intro x hx2
    obtain ⟨i, hi, e⟩ := List.getElem_of_mem hx2
    have q := hp i x ps[i] (by rw [List.getElem?_eq_getElem hi, e]) (List.getElem?_eq_getElem (show i < ps.length by omega))
    rw [q.kf]
    exact q
  refine ⟨l, xs, kf H, rfl, h, fun x hx2 => hm x hx2, fun ys p hs hb hn => ?_⟩
  refine k p _ ys hn (same_up hn) upd_same (fun y hy => (hm y (hb.perm.mem_iff.mp hy)).same (same_up hn)) ?_
  rw [← hx]
  refine srtP_uniq (hb.perm.map _) ?_
  refine List.Pairwise.map _ ?_ hs
  intro x y hxy
  unfold lexLe
  by_cases c : (kf H x).1 < (kf H y).1 ∨ ((kf H x).1 = (kf H y).1 ∧ (kf H x).2 ≤ (kf H y).2)
  · exact c
  · have : SrtO.lexB (kf H y) (kf H x) = true := SrtO.lexB_iff.mpr (by omega)
    have h2 : SrtO.lexB (kf H y) (kf H x) = false := hxy
    rw [this] at h2
    cases h2
/-! ### is None, abs, two names at once -/
def rIsNone : R2 := fun x y H Q => y = .non ∧ Q (.bl (decide (x = .non))) H
theorem op_isN0 {X : Cx} : OpR X (compareOp .Is) rIsNone := op_isN
theorem v_isN {x : V} {H : Hp} {Q : VK} (k : Q (.bl (decide (x = .non))) H) : rIsNone x .non H Q := ⟨rfl, k⟩
def rAbs : List V → Hp → VK → Prop := fun xs H Q => ∃ i, xs = [.int i] ∧ Q (.int (if i < 0 then -i else i)) H
theorem call_absK {X : Cx} : CallR X (.builtin "abs") rAbs := call_abs
theorem v_abs {a : Int} {H : Hp} {Q : VK} (k : Q (.int (if a < 0 then -a else a)) H) : rAbs [.int a] H Q := ⟨a, rfl, k⟩
theorem w_par {i j : Nat} {ta : TA} {D : Ends} {σ : L2.St} {H : Hp} (k : ta σ H fun vs H1 => ∃ v w, vs = [v, w] ∧ D.nx ((σ.set i (some v)).set j (some w)) H1) : tPar i j ta D σ H := k
theorem v_par {f : L2.St → Hp → Prop} {σ : L2.St} {i j : Nat} {x y : V} {H : Hp} (k : f ((σ.set i (some x)).set j (some y)) H) : ∃ v w, [x, y] = [v, w] ∧ f ((σ.set i (some v)).set j (some w)) H := ⟨x, y, rfl, k⟩
/-- two promises of one def -/
theorem FnOk.or {P : Program} {w : World} {K : PySem.W.Frag} {mg : Str → Option Value} {base : Heap} {CX : CXT} {k : Nat} {f : Addr} {fd : FuncData} {ps : List Str} {sp sp' : Sp} (F : FnOk P w K mg base CX k f fd ps sp) (F' : FnOk P w K mg base CX k f fd ps sp') :
    FnOk P w K mg base CX k f fd ps (fun vs H Q E => sp vs H Q E ∨ sp' vs H Q E) :=
  ⟨fun vs H Q E h => h.elim (F.len vs H Q E) (F'.len vs H Q E), fun A outer s H args us vs Q E hr e0 hb hv h => h.elim (F.run A outer s H args us vs Q E hr e0 hb hv) (F'.run A outer s H args us vs Q E hr e0 hb hv)⟩
theorem kb_il : kitB "int" "list" = some false := by decide +kernel
theorem kb_it : kitB "int" "tuple" = some false := by decide +kernel
theorem kb_is : kitB "int" "str" = some false := by decide +kernel
end Wt
namespace Wt
open PySem L2 PySem.Spec PyProof.Rows
/-! ### set(xs) of a list of ints; sorted of a set of ints of any length -/
def freshSet (w : World) : Obj := { cls := .type "set", dict := none, data := .set #[] 0 (.fresh 0 0 (!w.params.followText "set-order")) }
/-- after set.__init__: the ints of ns are in the set at S, all older things stay -/
def SetMade (w : World) (S : Addr) (ns : List Int) (s s₂ : Shared) : Prop :=
  ∃ h' tk c, s₂ = { s with heap := h', toks := tk } ∧ SetR w h' S (fun j => decide (j ∈ ns)) c ∧ c ≤ ns.length ∧ ∀ b o, s.heap.get? b = some o → h'.get? b = some o
section
variable {P : Program} {w : World} {A : Around} {E : Value → Shared → Prop} {s : Shared}
theorem freshSet_at {h : Heap} {a : Addr} {ns : List Int} (ho : h.get? a = some (freshSet w)) : SetR w h a (fun j => decide (j ∈ ns.take 0)) 0 := setR_new_at ho
theorem ints_get {items : Array Value} {ns : List Int} (hit : IntsAre items.toList ns) (hz : items.size = ns.length) : ∀ (i : Nat) (v : Value), items[i]? = some v → ∃ k t, ns[i]? = some k ∧ v = .int k t := by
  intro i v hv
  have hi : i < ns.length := by rw [← hz]; exact (Array.getElem?_eq_some_iff.mp hv).1
  obtain ⟨t, e⟩ := PyProof.Rows.IntsAre.int_at hit i v (by rw [Array.getElem?_toList]; exact hv)
  refine ⟨ns[i], t, List.getElem?_eq_getElem hi, ?_⟩
  rw [e, List.getD_eq_getElem?_getD, List.getElem?_eq_getElem hi] <;> rfl
theorem call_set_listI {l : Addr} {items : Array Value} {ns : List Int} {Q : Value → Shared → Prop} (hh : A.handled = none) (hl : s.heap.IsList l items) (hit : IntsAre items.toList ns) (hb : ns.length + 1 < scanBound)
    (h : ∀ s₂, SetMade w s.heap.objs.size ns s s₂ → Q (.ref s.heap.objs.size) s₂) : wpAny (model P w) A (call (.type "set") [.ref l]) Q E s := by
  have hz : items.size = ns.length := by
    have q := IntsAre.length hit
    rw [Array.length_toList] at q
    exact q
  obtain ⟨c, tl, hmro⟩ := F.called_set.mro
  have hmade := F.called_set.made
  have hsub := F.called_set.sub
  refine wpAny_call (codeAny_of_tree ?_)
  show wpAny _ _ (callAny (.type "set") _) _ _ _
  refine wpAny_pure ⟨Code.quiet_builtin _ (by decide +kernel), codeAny_builtin F.entry_type_call ?_⟩
  rw [Around.under_plain (weight_type_call_type "set" [.ref l] []) rfl]
  have h1 := F.called_set.notType
  have h2 := F.called_set.canCreate
  have hct := F.typeCall_set_1 (.ref l)
  repeat (any_goals (first | assumption | wp_step))
  -- the new one
  refine codeAny_mono (code_set_led1 (.ref l) (E := E) (Q₁ := fun obj s₁ => obj = .ref s.heap.objs.size ∧ s₁ = { s with heap := s.heap.push (freshSet w) }) ⟨rfl, rfl⟩) fun r s₁ hr => ?_
  match r, hr with
  | .error e, hr => exact hr
  | .ok (.ret obj), hr => ?_
  obtain ⟨rfl, rfl⟩ := hr
  have hS : (s.heap.push (freshSet w)).get? s.heap.objs.size = some (freshSet w) := Heap.get?_push_size _ rfl
  have hT : Shared.TypeIs { s with heap := s.heap.push (freshSet w) } (.ref s.heap.objs.size) "set" := ⟨_, hS, rfl⟩
  have hli := F.called_set.init.lookup
  have hbi := F.called_set.init.bind (.ref s.heap.objs.size)
  repeat (any_goals (first | assumption | wp_step))
  -- its walk over the list
  refine codeAny_mono (codeAny_call_builtin (R := wants (fun r s₂ => r = .none ∧ SetMade w s.heap.objs.size ns s s₂) E) F.called_set.init.plain F.entry_set_init (check_set_init_1 hT ?_)) fun r₂ s₂ hr₂ => ?_
  · obtain ⟨ol, hol, hcl, nl, hdl⟩ := hl
    obtain ⟨ocls, odict, odata, oslots⟩ := ol
    simp only at hcl hdl
    subst hcl; subst hdl
    have hol' : (s.heap.push (freshSet w)).get? l = some { cls := .type "list", dict := odict, data := .seq items nl, slots := oslots } := Heap.get?_push_of_some _ hol
    have hsls := F.sub_list_set
    have hslf := F.sub_list_frozenset
    have hne : (Value.type "list" == Value.type "dict") = false := by decide
    have hl1 : (s.heap.push (freshSet w)).IsList l items := ⟨_, hol', rfl, nl, rfl⟩
    have hlS : l < s.heap.objs.size := Heap.lt_size hol
    have hz1 : (s.heap.push (freshSet w)).objs.size = s.heap.objs.size + 1 := Heap.size_push ..
    unfold Builtin.«set.__init__» noKeywords Builtin.Frozenset.updateFrom
    generalize hPI : pyIter = PI
    wp_walk
    subst hPI
    refine wpAny_pyIter_list hl1 ?_
    refine wpAny_bind (wpAny_runValue ?_)
    have hneI : l ≠ (s.heap.push (freshSet w)).objs.size := by rw [hz1]; exact Nat.ne_of_lt (Nat.lt_succ_of_lt hlS)
    have hSf : s.heap.objs.size ∉ [(s.heap.push (freshSet w)).objs.size, l] := by
      simp only [List.mem_cons, List.not_mem_nil, or_false, not_or]
      exact ⟨by rw [hz1]; exact Nat.ne_of_lt (Nat.lt_succ_self _), Nat.ne_of_gt hlS⟩
    refine set_update_ints ((Walks.list (by simp [hh]) _ l hneI items).toS) s.heap.objs.size hSf ns hz hb (ints_get hit hz) (items.size - 0) 0 _ (by omega) (Nat.zero_le _)
      ⟨⟨_, Heap.get?_push_size _ rfl, rfl, rfl⟩, (hl1.push _)⟩ ⟨0, Nat.le_refl 0, freshSet_at (Heap.get?_push_of_some _ hS)⟩ fun s' c' hm hc' hS' => ?_
    obtain ⟨h', g2, d', tk', os'⟩ := s'
    have eg : g2 = s.gens := hm.gens
    have ed : d' = s.drawn := hm.drawn
    have eo : os' = s.os := hm.os
    subst eg; subst ed; subst eo
    show wpAny _ _ _ _ _ _
    refine wpAny_pure ?_
    show wpAny _ _ (ret Value.none) _ _ _
    refine wpAny_pure ⟨rfl, h', tk', c', rfl, hS', by omega, fun b o e => ?_⟩
    have hb0 : b < s.heap.objs.size := Heap.lt_size e
    refine hm.heap b o ?_ (Heap.get?_push_of_some _ (Heap.get?_push_of_some _ e))
    simp only [List.mem_cons, List.not_mem_nil, or_false, not_or]
    exact ⟨Nat.ne_of_lt hb0, by rw [hz1]; exact Nat.ne_of_lt (Nat.lt_succ_of_lt hb0)⟩
  · match r₂, hr₂ with
    | .error e, hr₂ => exact hr₂
    | .ok (.ret r), hr₂ => ?_
    obtain ⟨rfl, hm⟩ := hr₂
    have hq := h _ hm
    repeat (any_goals (first | assumption | wp_step))
/-- sorted of a set of ints, of any length up to a list's line -/
theorem sorted_setN {a : Addr} {S : Int → Bool} {n : Nat} {Q : Value → Shared → Prop} (R : SetR w s.heap a S n) (hh : A.handled = none) (hz : n ≤ sizeLine)
    (hQ : ∀ s' p (out : Array Value) (c : Nat) (ns : List Int), (∀ b o, s.heap.get? b = some o → s'.heap.get? b = some o) → s'.gens = s.gens → s'.os = s.os → s.heap.objs.size ≤ p →
      s'.heap.get? p = some (seqObj "list" out c) → IntsAre out.toList ns → ns.Pairwise (· < ·) → (∀ k, k ∈ ns ↔ S k = true) → ns.length = n → Q (.ref p) s') :
    wpAny (model P w) A (call (.builtin "sorted") [.ref a]) Q E s := by
  obtain ⟨o, es, ep, t, ho, hex, hd, g, nd, hm, hb, hf, hn, hr, hl⟩ := R
  refine Calls.call_function_entry kind_sorted plain_sorted entry_sorted (args_sorted1 _) ?_
  unfold Builtin.«sorted»
  refine wpAny_bind (m := checkCount "sorted" 1 1 _) (wpAny_pure ?_)
  refine wpAny_bind (collect_set (A := A.in1) hh ⟨o, ho, hex.1, hd⟩ hf hb hr hl fun s1 vs k1 h1 g1 o1 pm => ?_)
  have hvl : vs.length = n := by rw [pm.length_eq, List.length_map, Array.length_toList]; exact hn
  have hI : IntsAre vs (vs.map Builtin.Re.reRawOf) := ints_of vs fun v hv => by
    obtain ⟨e, he, q⟩ := List.mem_map.mp (pm.mem_iff.mp hv)
    obtain ⟨k, tk, e1, _⟩ := g e he
    exact ⟨k, tk, by rw [← q]; exact e1⟩
  have pk : (vs.map Builtin.Re.reRawOf).Perm (es.toList.map keyOf) := by
    have q := pm.map Builtin.Re.reRawOf
    rw [List.map_map] at q
    exact q
  have hvs : vs.length ≤ sizeLine := by rw [hvl]; exact hz
  refine wpAny_bind (wpAny_newList ?_ hvs)
  have hoL : (s1.heap.push (seqObj "list" vs.toArray 0)).get? s1.heap.objs.size = some (seqObj "list" vs.toArray 0) := Heap.get?_push_size _ rfl
  refine wpAny_bind (wpAny_holding (wpAny_call_entry slot_list_sort ⟨_, hoL, rfl⟩ entry_list_sort (SrtO.list_sort_ord SrtO.swo_int hoL hvs (fun h2 => SrtO.ints_sortable hI h2) fun out b1 b2 => ⟨_, rfl, ?_⟩) (args_list_sort _)))
  obtain ⟨a1, a2, a3⟩ := SrtO.ints_out hI b1 b2
  obtain ⟨c, hc⟩ := sortedHeap_at (vs := vs) (out := out.toArray) hoL
  have pn : (out.map SrtO.iv).Perm (es.toList.map keyOf) := a2.trans pk
  refine wpAny_pure ⟨_, rfl, hQ _ s1.heap.objs.size out.toArray c (out.map SrtO.iv) (fun b u e => ?_) g1 o1 h1 hc (by simpa using a1) (lt_of_le_nodup _ a3 (pn.nodup_iff.mpr nd)) (fun k => by rw [pn.mem_iff, ← hm k]) ?_⟩
  · have q := k1 b u e
    have hlt := Heap.lt_size q
    show (sortedHeap (s1.heap.push (seqObj "list" vs.toArray 0)) s1.heap.objs.size vs out.toArray).get? b = some u
    rw [sortedHeap_old (Nat.ne_of_lt hlt) (by rw [size_push']; exact Nat.lt_succ_of_lt hlt)]
    exact Heap.get?_push_of_some _ q
  · rw [pn.length_eq, List.length_map, Array.length_toList]; exact hn
end
section
variable {X : Cx}
/-- set(xs) -/
def rSetL (w : World) (K : PySem.W.Frag) : List V → Hp → VK → Prop := fun vs H Q => ∃ (a : Addr) (ns : List Int), vs = [V.ref a] ∧ SqL K H a (ns.map V.int) ∧ ns.length ≤ 1000 ∧
  ∀ p c, H p = none → c ≤ ns.length → Q (.ref p) (upd H p (SetO w p (fun j => decide (j ∈ ns)) c))
theorem cr_setL (hc : X.calm = true) : CallR X (.type "set") (rSetL X.w X.K) := by
  intro pins s σ H vs us Q I r h
  obtain ⟨a, ns, rfl, hs, hn, q⟩ := h
  obtain ⟨its, rv, hl, hz⟩ := I.list hs
  rw [Vals.ref1 r]
  refine call_set_listI (ns := ns) (I.ok.hd hc) hl.isList (by simpa using ints_of_vals rv) (by unfold scanBound; omega) fun s₂ hm => ?_
  obtain ⟨h', tk, c, rfl, hR, hcn, hk⟩ := hm
  exact ⟨.ref s.heap.objs.size, upd H s.heap.objs.size (SetO X.w s.heap.objs.size (fun j => decide (j ∈ ns)) c), I.laid (t' := tk) hk (Nat.le_refl _) (setO_new hR), rfl, q _ _ (I.hok.fresh (Nat.le_refl _)) hcn⟩
/-- sorted(found), found a set of ints -/
def rSortedSetN (w : World) : List V → Hp → VK → Prop := fun vs H Q => ∃ (a : Addr) (S : Int → Bool) (n : Nat), vs = [V.ref a] ∧ H a = some (SetO w a S n) ∧ n ≤ 1000 ∧
  ∀ (ns : List Int) (p : Addr), ns.Pairwise (· < ·) → (∀ k : Int, k ∈ ns ↔ S k = true) → H p = none → Q (.ref p) (upd H p (.lst (ns.map V.int)))
theorem cr_sortedSetN (hc : X.calm = true) : CallR X (.builtin "sorted") (rSortedSetN X.w) := by
  intro pins s σ H vs us Q I r h
  obtain ⟨a, S, n, rfl, ha, hn, q⟩ := h
  have hz : n ≤ sizeLine := by rw [sizeLine_eq]; omega
  rw [Vals.ref1 r]
  refine sorted_setN (setO_get I ha) (I.ok.hd hc) hz fun s' p out c ns k g o hp hg hi hs hm hl => ?_
  have hlen : (ns.map V.int).length ≤ sizeLine := by rw [List.length_map, hl]; exact hz
  have hf : H p = none := I.hok.fresh hp
  have J : Inv X pins σ (upd H p (.lst (ns.map V.int))) { s with heap := s'.heap, gens := s'.gens, drawn := s'.drawn, toks := s'.toks } :=
    I.call (ch := []) (Un.laid k hp hf) (I.hok.laid k hp ⟨hlen, out.toList, c, vals_of_ints hi, hg⟩) (by rw [g]; exact I.bare) (fun _ z => nomatch z)
  have e : s' = { s with heap := s'.heap, gens := s'.gens, drawn := s'.drawn, toks := s'.toks } := by
    cases s'
    cases s
    cases o
    rfl
  rw [e]
  exact ⟨.ref p, _, J, rfl, q ns p hs hm hf⟩
end
/-! the two together -/
theorem rise_uniq {as bs : List Int} (ha : as.Pairwise (· < ·)) (hb : bs.Pairwise (· < ·)) (h : ∀ k, k ∈ as ↔ k ∈ bs) : as = bs := by
  have p : as.Perm bs := (List.perm_ext_iff_of_nodup (ha.imp fun h => Int.ne_of_lt h) (hb.imp fun h => Int.ne_of_lt h)).mpr h
  exact p.eq_of_pairwise (fun a b _ _ h1 h2 => absurd h1 (by omega)) ha hb
theorem v_setL {w : World} {K : PySem.W.Frag} {H : Hp} {Q : VK} {a : Addr} {ns : List Int} (h : SqL K H a (ns.map V.int)) (hz : ns.length ≤ 1000) (k : ∀ p c H2, H p = none → Same H H2 → H2 p = some (SetO w p (fun j => decide (j ∈ ns)) c) → c ≤ ns.length → Q (.ref p) H2) : rSetL w K [.ref a] H Q :=
  ⟨a, ns, rfl, h, hz, fun p c hp hc => k p c _ hp (same_up hp) upd_same hc⟩
theorem v_sortedSet {w : World} {H : Hp} {Q : VK} {a : Addr} {ns : List Int} {c : Nat} (h : H a = some (SetO w a (fun j => decide (j ∈ ns)) c)) (hc : c ≤ 1000) (k : ∀ (p : Addr) (H2 : Hp) (os : List Int), H p = none → Same H H2 → H2 p = some (.lst (os.map V.int)) → os.Pairwise (· < ·) → (∀ j, j ∈ os ↔ j ∈ ns) → Q (.ref p) H2) : rSortedSetN w [.ref a] H Q :=
  ⟨a, _, c, rfl, h, hc, fun os p hs hm hp => k p _ os hp (same_up hp) upd_same hs fun j => by rw [hm j, decide_eq_true_eq]⟩
end Wt
namespace Wt
open PySem L2 PySem.Spec PyProof.Rows
def topS (i : Nat) : Stmt := PySem.Challenge.pw_weightset_k04_changes.main.body.getD i (.Pass ⟨0, 0, 0, 0⟩)
abbrev sIsNumber : Stmt := topS 5
abbrev sAskedSet : Stmt := topS 6
abbrev sFirstMissing : Stmt := topS 7
abbrev sFirstGap : Stmt := topS 8
abbrev sWeighing : Stmt := topS 9
abbrev sLawSet : Stmt := topS 11
abbrev sLawGap : Stmt := topS 12
abbrev sLawSums : Stmt := topS 13
abbrev sLaw : Stmt := topS 14
theorem sc_sIsNumber : FnScope ["thing", "least"] ["thing", "least"] (defScope sIsNumber) := ⟨rfl, rfl, rfl, by decide +kernel, rfl, by decide +kernel, by decide +kernel⟩
theorem sc_sAskedSet : FnScope ["weights", "weight"] ["weights"] (defScope sAskedSet) := ⟨rfl, rfl, rfl, by decide +kernel, rfl, by decide +kernel, by decide +kernel⟩
theorem sc_sFirstMissing : FnScope ["weights", "found", "weight"] ["weights"] (defScope sFirstMissing) := ⟨rfl, rfl, rfl, by decide +kernel, rfl, by decide +kernel, by decide +kernel⟩
theorem sc_sFirstGap : FnScope ["weights"] ["weights"] (defScope sFirstGap) := ⟨rfl, rfl, rfl, by decide +kernel, rfl, by decide +kernel, by decide +kernel⟩
theorem sc_sWeighing : FnScope ["weights", "number", "found", "left", "weight", "place"] ["weights", "number"] (defScope sWeighing) := ⟨rfl, rfl, rfl, by decide +kernel, rfl, by decide +kernel, by decide +kernel⟩
theorem sc_sLawSet : FnScope ["_law_script", "_law_mixed", "_law_kind", "_law_found", "_law_whole", "_law_cell", "_law_weight", "_law_at"] ["_law_script"] (defScope sLawSet) := ⟨rfl, rfl, rfl, by decide +kernel, rfl, by decide +kernel, by decide +kernel⟩
theorem sc_sLawGap : FnScope ["_law_weights", "_law_whole", "_law_weight"] ["_law_weights"] (defScope sLawGap) := ⟨rfl, rfl, rfl, by decide +kernel, rfl, by decide +kernel, by decide +kernel⟩
theorem sc_sLawSums : FnScope ["_law_weights", "_law_found", "_law_weight", "_law_one"] ["_law_weights"] (defScope sLawSums) := ⟨rfl, rfl, rfl, by decide +kernel, rfl, by decide +kernel, by decide +kernel⟩
theorem sc_sLaw : FnScope ["_law_script", "_law_weights", "_law_gap_here", "_law_few", "_law_sums_here", "_law_least", "_law_number", "_law_half", "_law_one", "_law_other", "_law_cell", "_law_more", "_law_place"] ["_law_script"] (defScope sLaw) := ⟨rfl, rfl, rfl, by decide +kernel, rfl, by decide +kernel, by decide +kernel⟩
structure Ca where
  (WeightError BadSet BadNumber BadPlace Answer All Gap Best : Addr)
structure Tx (K : PySem.W.Frag) (mg : Str → Option Value) (c : Ca) : Prop where
  z_all : mg "all" = none
  z_bool : mg "bool" = none
  z_enumerate : mg "enumerate" = none
  z_int : mg "int" = none
  z_isinstance : mg "isinstance" = none
  z_len : mg "len" = none
  z_list : mg "list" = none
  z_range : mg "range" = none
  z_set : mg "set" = none
  z_sorted : mg "sorted" = none
  z_sum : mg "sum" = none
/-! ### steps -/
local macro_rules | `(tactic| wtm_at "hp") => `(tactic| first | assumption | (refine same_at (by assumption) ?_; wtm_at "hp"))
local macro_rules | `(tactic| wtm_at "sq") => `(tactic| first | assumption | (refine sq_h ?_; wtm_at "hp") | (refine same_sq (by assumption) ?_; wtm_at "sq"))
local macro_rules | `(tactic| wtm_at "st") => `(tactic| first | assumption | (refine st_h ?_; wtm_at "hp") | (refine same_st (by assumption) ?_; wtm_at "st"))
local macro_rules | `(tactic| wtm_at "set") => `(tactic| first | exact set_0 | (refine set_s ?_; wtm_at "set"))
local macro_rules | `(tactic| wtm_at "w1") => `(tactic| first
  | ((with_reducible refine w_var (v := ?v) ?h ?k); (case h => exact rfl))
  | (with_reducible refine w_c ?_)
  | (with_reducible refine w_op ?_)
  | (with_reducible refine v_I0 ?_)
  | (with_reducible refine w_cons ?_)
  | (with_reducible refine w_nil ?_)
  | (with_reducible refine w_seq ?_)
  | (with_reducible refine w_asg ?_)
  | ((with_reducible refine w_nx (σ' := ?s) ?h ?k); (case h => wtm_at "set"))
  | (with_reducible refine w_test ?_)
  | (with_reducible refine v_b ?_)
  | (with_reducible refine w_call ?_)
  | (with_reducible refine w_cb ?_)
  | (with_reducible refine w_B ?_)
  | (with_reducible refine w_or ?_)
  | (with_reducible refine w_and ?_)
  | (with_reducible refine w_not ?_)
  | (with_reducible refine w_ifS ?_)
  | (with_reducible refine w_ret ?_)
  | (with_reducible refine w_drop ?_)
  | (with_reducible refine w_next ?_)
  | (with_reducible refine v_eqI ?_)
  | (with_reducible refine v_neI ?_)
  | (with_reducible refine w_lst ?_)
  | (with_reducible refine w_tup ?_)
  | (with_reducible refine w_fld ?_)
  | (with_reducible refine w_meth ?_)
  | (with_reducible refine w_make ?_)
  | (with_reducible refine w_for ?_)
  | (with_reducible refine w_lc ?_)
  | (with_reducible refine w_sl ?_)
  | (with_reducible refine w_part ?_)
  | (with_reducible refine w_nopart ?_)
  | (with_reducible refine v_i ?_)
  | (with_reducible refine w_chain ?_)
  | (with_reducible refine w_un ?_)
  | (with_reducible refine v_U ?_)
  | (with_reducible refine w_andV ?_)
  | (with_reducible refine w_orV ?_)
  | (with_reducible refine w_notV ?_)
  | (with_reducible refine w_ifE ?_)
  | (with_reducible refine w_bm ?_)
  | (with_reducible refine w_bm0 ?_)
  | (with_reducible refine w_rev ?_)
  | (with_reducible refine w_flds ?_)
  | ((with_reducible refine v_I ?c ?k); (case c => first | (with_reducible assumption) | ((with_reducible show (0 : Int) < _); omega) | (unfold CDiv; decide) | (unfold CPow; decide) | (unfold CDiv; constructor <;> omega) | (unfold CPow; exact ⟨by omega, by omega, by omega⟩))))

local macro_rules | `(tactic| wtm_at "w1") => `(tactic| first
  | ((with_reducible refine v_fld (C := ?C) (dx := ?dx) (fs := ?fs) (v := ?v) ?h ?hc ?hn ?hl ?k); (case h => wtm_at "hp"); (case hc => assumption); (case hn => assumption); (case hl => first | assumption | exact lk1 | exact lk2a | exact lk2b (by decide +kernel)))
  | ((with_reducible refine v_sum (ns := ?ns) ?h ?k); (case h => wtm_at "sq"))
  | ((with_reducible refine v_len (ns := ?ns) ?h ?k); (case h => wtm_at "sq"))
  | ((with_reducible refine v_in (ns := ?ns) ?h ?k); (case h => wtm_at "sq"))
  | (with_reducible refine w_lcR ?_)
  | (with_reducible refine w_lcE ?_)
  | (with_reducible refine w_par ?_)
  | (with_reducible refine v_par ?_)
  | (with_reducible refine v_isN ?_)
  | (with_reducible refine v_abs ?_)
  | (with_reducible refine v_eqB ?_)
  | (with_reducible refine v_neB ?_)
  | ((with_reducible refine v_ixL (xs := ?xs) (v := ?v) ?h ?e ?k); (case h => wtm_at "sq"); (case e => exact at_get (by omega) (by omega))))
local macro_rules | `(tactic| wtm_at "w") => `(tactic| repeat wtm_at "w1")
theorem w_start {t : TS} {D : Ends} {N : List Str} {vs : List V} {σ : L2.St} {H : Hp} (h : start N vs = σ) (k : t D σ H) : t D (start N vs) H := h ▸ k
section
variable {P : Program} {w : World} {K : PySem.W.Frag} {mg : Str → Option Value} {base : Heap} {c : Ca}
/-! ### for over ranges -/
def ForJ (g : TG) (tb : TS) (D : Ends) (J : It) (σ : L2.St) (H1 : Hp) : Prop := ∃ W : Nat → Nat → L2.St → Hp → Prop, (∃ m, W 0 m σ H1) ∧ ∀ i m σ H, W i m σ H →
  (J.stop i H ∧ D.nx σ H) ∨ (J.go i H ∧ ∃ N : L2.St → Hp → Prop, (∀ σ' H', N σ' H' → ∃ m', m' < m ∧ W (i + 1) m' σ' H') ∧ ∀ x H', J.yld i H x H' → g x σ H' fun σ2 H2 => tb { D with nx := N, ct := N, bk := D.nx } σ2 H2)
section
variable {σ : L2.St} {H : Hp} {ta : TA} {g : TG} {tb : TS} {D : Ends}
def R1 (g : TG) (tb : TS) (D : Ends) (σ : L2.St) (vs : List V) (H1 : Hp) : Prop := ∃ j : Int, vs = [.int j] ∧ -(2 ^ 62) ≤ j ∧ j < 2 ^ 62 ∧ ForJ g tb D (Itr 0 j.toNat) σ H1
theorem w_forR1 (k : ta σ H fun vs H1 => R1 g tb D σ vs H1) : tFor (iRng1 ta) g tb D σ H := k
theorem v_forR1 {j : Nat} {n : Int} (hn : 0 ≤ n ∧ n ≤ 100000) (Pv : Nat → L2.St → Hp → Prop) (h0 : Pv 0 σ H)
    (hs : ∀ (i : Nat) σ' H', (i : Int) < n → Pv i σ' H' → tb { D with nx := Pv (i + 1), ct := Pv (i + 1), bk := D.nx } (σ'.set j (some (.int (i : Int)))) H') (hd : ∀ σ' H', Pv n.toNat σ' H' → D.nx σ' H') : R1 (gName j) tb D σ [.int n] H :=
  ⟨n, rfl, by omega, by omega, for_range (lo := 0) (n := n.toNat) Pv h0 (fun i σ' H' hi p => by
    have e0 : (0 : Int) + (i : Int) = (i : Int) := Int.zero_add _
    show tb { D with nx := Pv (i + 1), ct := Pv (i + 1), bk := D.nx } (σ'.set j (some (.int ((0 : Int) + (i : Int))))) H'
    rw [e0]
    exact hs i σ' H' (by omega) p) hd⟩
def R3 (g : TG) (tb : TS) (D : Ends) (σ : L2.St) (vs : List V) (H1 : Hp) : Prop := ∃ (i j c : Int) (n : Nat), vs = [.int i, .int j, .int c] ∧ RgC i j c n ∧ ForJ g tb D (Itc i c n) σ H1
theorem w_forR3 (k : ta σ H fun vs H1 => R3 g tb D σ vs H1) : tFor (iRng3 ta) g tb D σ H := k
theorem rg_up {i j c : Int} (hi : 0 ≤ i ∧ i ≤ 100000) (hj : 0 ≤ j ∧ j ≤ 100000) (hc : 1 ≤ c ∧ c ≤ 100000) : RgC i j c (Builtin.Range.rangeSize i j c).toNat ∧ ∀ k : Nat, k < (Builtin.Range.rangeSize i j c).toNat → i + (k : Int) * c < j := by
  have e : Builtin.Range.rangeSize i j c = if i < j then (j - i - 1) / c + 1 else 0 := if_pos (by omega)
  have hd : i < j → 0 ≤ (j - i - 1) / c ∧ (j - i - 1) / c ≤ j - i - 1 := fun h => ⟨Int.ediv_nonneg (by omega) (by omega), Int.ediv_le_self _ (by omega)⟩
  refine ⟨⟨by omega, by omega, ?_, ?_⟩, fun k hk => ?_⟩
  · unfold Builtin.Range.small
    rw [e]
    simp only [Builtin.Range.rangeFitsLong, Bool.and_eq_true, Bool.or_eq_true, decide_eq_true_eq, beq_iff_eq, show c > 0 by omega, if_true]
    split <;> omega
  · rw [e]
    split
    · have := hd (by assumption)
      omega
    · omega
  · rw [e] at hk
    split at hk
    · have h1 : (k : Int) ≤ (j - i - 1) / c := by
        have := hd (by assumption)
        omega
      have h2 : (k : Int) * c ≤ j - i - 1 := by
        have := Int.mul_le_of_le_ediv (show (0 : Int) < c by omega) h1
        exact this
      omega
    · simp at hk
theorem v_forR3 {j : Nat} {lo n c : Int} (hi : 0 ≤ lo ∧ lo ≤ 100000) (hj : 0 ≤ n ∧ n ≤ 100000) (hc : 1 ≤ c ∧ c ≤ 100000) (Pv : L2.St → Hp → Prop) (h0 : Pv σ H)
    (hs : ∀ (i : Int) σ' H', 0 ≤ i → i < n → Pv σ' H' → tb { D with nx := Pv, ct := Pv, bk := D.nx } (σ'.set j (some (.int i))) H') (hd : ∀ σ' H', Pv σ' H' → D.nx σ' H') : R3 (gName j) tb D σ [.int lo, .int n, .int c] H :=
  ⟨lo, n, c, _, rfl, (rg_up hi hj hc).1, for_rangeC (lo := lo) (fun _ => Pv) h0 (fun i σ' H' hlt p => hs _ σ' H' (by
    have := Int.mul_nonneg (show (0 : Int) ≤ (i : Nat) by omega) (show 0 ≤ c by omega)
    omega) ((rg_up hi hj hc).2 i hlt) p) hd⟩
end
local macro_rules | `(tactic| wtm_at "w1") => `(tactic| first | (with_reducible refine w_forR1 ?_) | (with_reducible refine w_forR3 ?_))
/-! ### is_number -/
def sp_is_number (K : PySem.W.Frag) (_ : Ca) : Sp := fun vs H Q _ => ∃ x l, vs = [x, .int l] ∧ Okd K H x ∧ Ret (.bl (isNum x l)) H Q
theorem c_is_number {x : V} {l : Int} {H : Hp} {Q : VK} {E : XK} (h : Okd K H x) (k : ∀ H2, Same H H2 → Q (.bl (isNum x l)) H2) : sp_is_number K c [x, .int l] H Q E := ⟨x, l, rfl, h, k⟩
theorem ok_is_number {f : Addr} {fd : FuncData} (A : At K mg "is_number" sIsNumber ["thing", "least"] f fd) (T : Tx K mg c) : FnAt P w K mg base CX0 1 "is_number" ["thing", "least"] (sp_is_number K c) f fd := by
  refine ⟨A.g, A.F.kp, A.b, A.F.ok sc_sIsNumber (fun vs H Q E h => ?_) (fun cdv Ar outer s H vs Q E hr h => ?_)⟩
  · obtain ⟨x, l, rfl, _⟩ := h
    rfl
  · obtain ⟨x, l, rfl, ho, k⟩ := h
    refine ⟨(tRet (tAndV (tCB (rIsi K) (tCons (tVar 0) (tCons (tC (.ty "int")) tNil))) (tAndV (tNotV (tCB (rIsi K) (tCons (tVar 0) (tCons (tC (.ty "bool")) tNil)))) (tOp (rI0 fun i j => .bl (decide (j ≤ i))) (tVar 0) (tVar 1))))), (pss_one (ps_ret (pe_and (pe_callB call_isi (by rfl) T.z_isinstance bt_isinstance (pa_cons (pv 0) (pa_cons (pe_bltn (v := .ty "int") (by rfl) T.z_int bt_int rfl) pa_nil))) (pe_and (pe_not (pe_callB call_isi (by rfl) T.z_isinstance bt_isinstance (pa_cons (pv 0) (pa_cons (pe_bltn (v := .ty "bool") (by rfl) T.z_bool bt_bool rfl) pa_nil)))) (pe_one (pe_cmpR op_ge (pv 0) (pv 1) (nomark _))))))), ?_⟩
    refine w_start (σ := [some _, some _]) rfl ?_
    wtm_at "w"
    refine v_isInt ho ?_
    wtm_at "w"
    refine v_andV (d := !isB x && isNum x l) (fun hI q hq => ?_) (fun H2 s2 => ?_)
    · wtm_at "w"
      refine v_isBool ho ?_
      wtm_at "w"
      refine v_andV (d := isNum x l) (fun hB q' hq' => ?_) (fun H2 s2 => hq H2 s2)
      have hx : ∃ i, x = .int i := by
        cases x with
        | int i => exact ⟨i, rfl⟩
        | non => cases hI
        | bl b => cases hB
        | str z => cases hI
        | byt z => cases hI
        | flt z => cases hI
        | ref z => cases hI
        | ty z => cases hI
      obtain ⟨i, rfl⟩ := hx
      wtm_at "w"
      exact hq' _ (Same.refl _)
    · have e : (isI x && (!isB x && isNum x l)) = isNum x l := by
        cases x <;> first | rfl | (unfold isI isB isNum; simp)
      rw [e]
      exact k H2 s2
/-! ### asked_set, of a set -/
def sp_asked_set (K : PySem.W.Frag) (_ : Ca) : Sp := fun vs H Q _ => ∃ a ns, vs = [.ref a] ∧ SqL K H a (ns.map V.int) ∧ Pos ns ∧ ns.length ≤ 16777215 ∧ Ret .non H Q
theorem c_asked_set {a : Addr} {ns : List Int} {H : Hp} {Q : VK} {E : XK} (h : SqL K H a (ns.map V.int)) (hp : Pos ns) (hz : ns.length ≤ 16777215) (k : ∀ H2, Same H H2 → Q .non H2) : sp_asked_set K c [.ref a] H Q E := ⟨a, ns, rfl, h, hp, hz, k⟩
theorem ok_asked_set {f f0 : Addr} {fd fd0 : FuncData} (A : At K mg "asked_set" sAskedSet ["weights"] f fd) (T : Tx K mg c) (G_is_number : FnAt P w K mg base CX0 1 "is_number" ["thing", "least"] (sp_is_number K c) f0 fd0) : FnAt P w K mg base CX0 2 "asked_set" ["weights"] (sp_asked_set K c) f fd := by
  refine ⟨A.g, A.F.kp, A.b, A.F.ok sc_sAskedSet (fun vs H Q E h => ?_) (fun cdv Ar outer s H vs Q E hr h => ?_)⟩
  · obtain ⟨a, ns, rfl, _⟩ := h
    rfl
  · obtain ⟨a, ns, rfl, hS, hp, hz, k⟩ := h
    refine ⟨(tIfS (tOr (tNot (tB (tCB (rIsi K) (tCons (tVar 0) (tCons (tC (.ty "list")) tNil))))) (tNot (tB (tCB (rAll K) (tCons (tLc (iList K (tVar 0)) (gName 1) tYes (tCall (sp_is_number K c) [] E0 (tCons (tVar 1) (tCons (tC (.int 1)) tNil))) [1]) tNil))))) tNever tNext), (pss_one (ps_if (PW.pt (pw_or (pt_not (pt_val (pe_callB call_isi (by rfl) T.z_isinstance bt_isinstance (pa_cons (pv 0) (pa_cons (pe_bltn (v := .ty "list") (by rfl) T.z_list bt_list rfl) pa_nil))))) (pw_or1 (pt_not (pt_val (pe_callB (cr_all rfl) (by rfl) T.z_all bt_all (pa_cons (pe_lc (own := [("weight", 1)]) (g := gName 1) (tt := tYes) (te := (tCall (sp_is_number K c) [] E0 (tCons (tVar 1) (tCons (tC (.int 1)) tNil)))) rfl sc_sAskedSet.nd (pi_list (pv 0)) (blkOk_by (N := ["weights", "weight"]) (sc := defScope sAskedSet) (by decide +kernel)) (fun _ _ _ _ _ => (pg_name (i := 1) sc_sAskedSet.nd rfl (Or.inl rfl))) (fun _ _ _ _ _ => pts_nil) (fun _ _ _ _ _ => (pe_call G_is_number.ok (hr.mono (by decide)) (by rfl) G_is_number.g G_is_number.kp G_is_number.b .nil pass0 (pa_cons (pv 1) (pa_cons pe_int pa_nil))))) pa_nil))))))) (pss_one ps_never) pss_nil)), ?_⟩
    refine w_start (σ := [some _, none]) rfl ?_
    wtm_at "w"
    refine v_isi (.ty _) (tyx_list hS) (kit_ty kb_ll) ?_
    wtm_at "w"
    refine v_iff rfl ?_
    wtm_at "w"
    refine v_lcI (σ2 := fun n => [some (.ref a), some (.int n)]) (fun _ => true) (fun n => .bl (decide (1 ≤ n))) hS hz (fun _ => rfl) (fun _ _ => rfl) (fun n H' _ _ R h => t_yes h) (fun n H' hn _ s1 R h => ?_) (fun D H2 hD s2 d2 => ?_)
    · wtm_at "w"
      exact c_is_number trivial h
    · rw [filter_yes, map_bl] at d2
      wtm_at "w"
      refine v_all (sq_h d2) ?_
      wtm_at "w"
      rw [all_map, show (ns.all fun n => decide (1 ≤ n)) = true from List.all_eq_true.mpr fun x hx => decide_eq_true (hp x hx)]
      refine v_iff rfl ?_
      wtm_at "w"
      exact k _ s2
/-! ### first_missing -/
def sp_first_missing (K : PySem.W.Frag) (_ : Ca) : Sp := fun vs H Q _ => ∃ a ns, vs = [.ref a] ∧ SqL K H a (ns.map V.int) ∧ Ret (.int (fm ns)) H Q
theorem c_first_missing {a : Addr} {ns : List Int} {H : Hp} {Q : VK} {E : XK} (h : SqL K H a (ns.map V.int)) (k : ∀ H2, Same H H2 → Q (.int (fm ns)) H2) : sp_first_missing K c [.ref a] H Q E := ⟨a, ns, rfl, h, k⟩
theorem ok_first_missing {f : Addr} {fd : FuncData} (A : At K mg "first_missing" sFirstMissing ["weights"] f fd) (T : Tx K mg c) : FnAt P w K mg base CX0 1 "first_missing" ["weights"] (sp_first_missing K c) f fd := by
  refine ⟨A.g, A.F.kp, A.b, A.F.ok sc_sFirstMissing (fun vs H Q E h => ?_) (fun cdv Ar outer s H vs Q E hr h => ?_)⟩
  · obtain ⟨a, ns, rfl, _⟩ := h
    rfl
  · obtain ⟨a, ns, rfl, hS, k⟩ := h
    refine ⟨(tSeq (tAsg (tC (.int 1)) (gName 1))
  (tSeq (tFor (iList K (tCB (rSortedI K) (tCons (tVar 0) tNil))) (gName 2) (tIfS (tTest (tOp (rI0 fun i j => .bl (decide (i ≤ j))) (tVar 2) (tVar 1))) (tAsg (tOp (rI0 fun i j => .int (i + j)) (tVar 1) (tVar 2)) (gName 1)) tNext))
  (tRet (tVar 1)))), (pss_cons (ps_set (i := 1) sc_sFirstMissing.nd rfl (Or.inl rfl) pe_int)
  (pss_cons (ps_for PassesOwn.never rfl (pi_list (pe_callB cr_sortedI (by rfl) T.z_sorted bt_sorted (pa_cons (pv 0) pa_nil))) (pg_name (i := 2) sc_sFirstMissing.nd rfl (Or.inl rfl)) (pss_one (ps_if (pt_cmpR op_le (pv 2) (pv 1) (nomark _)) (pss_one (ps_set (i := 1) sc_sFirstMissing.nd rfl (Or.inl rfl) (pe_op op_add (pv 1) (pv 2)))) pss_nil)))
  (pss_one (ps_ret (pv 1))))), ?_⟩
    refine w_start (σ := [some _, none, none]) rfl ?_
    wtm_at "w"
    refine v_sorted hS fun p H2 hp s2 d2 => ?_
    refine v_forI (sq_h d2) (fun r σ' H' => ∃ (f : Int) (y : Option V), σ' = [some (.ref a), some (.int f), y] ∧ r.foldl fstep f = fm ns ∧ Same H2 H') ⟨1, none, rfl, rfl, Same.refl _⟩ (fun r σ' H' h => h.choose_spec.choose_spec.2.2.seq (sq_h d2)) ?_ ?_
    · rintro pre n r σ' H' _ ⟨f, y, rfl, e, s⟩
      wtm_at "w"
      refine v_if (fun hc => ?_) (fun hc => ?_)
      · wtm_at "w"
        refine ⟨f + n, _, rfl, ?_, s⟩
        rw [← e]
        show _ = r.foldl fstep (fstep f n)
        rw [show fstep f n = f + n from if_pos (of_decide_eq_true hc)]
      · wtm_at "w"
        refine ⟨f, _, rfl, ?_, s⟩
        rw [← e]
        show _ = r.foldl fstep (fstep f n)
        rw [show fstep f n = f from if_neg (of_decide_eq_false hc)]
    · rintro σ' H' ⟨f, y, rfl, e, s⟩
      wtm_at "w"
      have e' : f = fm ns := e
      rw [e']
      exact k _ (s2.trans s)
/-! ### first_gap -/
def sp_first_gap (K : PySem.W.Frag) (_ : Ca) : Sp := fun vs H Q _ => ∃ a ns, vs = [.ref a] ∧ SqL K H a (ns.map V.int) ∧ Pos ns ∧ ns.length ≤ 16777215 ∧ Ret (.int (fm ns)) H Q
theorem c_first_gap {a : Addr} {ns : List Int} {H : Hp} {Q : VK} {E : XK} (h : SqL K H a (ns.map V.int)) (hp : Pos ns) (hz : ns.length ≤ 16777215) (k : ∀ H2, Same H H2 → Q (.int (fm ns)) H2) : sp_first_gap K c [.ref a] H Q E := ⟨a, ns, rfl, h, hp, hz, k⟩
theorem ok_first_gap {f f0 f1 : Addr} {fd fd0 fd1 : FuncData} (A : At K mg "first_gap" sFirstGap ["weights"] f fd) (T : Tx K mg c) (G_asked_set : FnAt P w K mg base CX0 2 "asked_set" ["weights"] (sp_asked_set K c) f0 fd0) (G_first_missing : FnAt P w K mg base CX0 1 "first_missing" ["weights"] (sp_first_missing K c) f1 fd1) : FnAt P w K mg base CX0 3 "first_gap" ["weights"] (sp_first_gap K c) f fd := by
  refine ⟨A.g, A.F.kp, A.b, A.F.ok sc_sFirstGap (fun vs H Q E h => ?_) (fun cdv Ar outer s H vs Q E hr h => ?_)⟩
  · obtain ⟨a, ns, rfl, _⟩ := h
    rfl
  · obtain ⟨a, ns, rfl, hS, hp, hz, k⟩ := h
    refine ⟨(tSeq (tDrop (tCall (sp_asked_set K c) [] E0 (tCons (tVar 0) tNil)))
  (tRet (tCall (sp_first_missing K c) [] E0 (tCons (tVar 0) tNil)))), (pss_cons (ps_expr (pe_call G_asked_set.ok (hr.mono (by decide)) (by rfl) G_asked_set.g G_asked_set.kp G_asked_set.b .nil pass0 (pa_cons (pv 0) pa_nil)))
  (pss_one (ps_ret (pe_call G_first_missing.ok (hr.mono (by decide)) (by rfl) G_first_missing.g G_first_missing.kp G_first_missing.b .nil pass0 (pa_cons (pv 0) pa_nil))))), ?_⟩
    refine w_start (σ := [some _]) rfl ?_
    wtm_at "w"
    refine c_asked_set hS hp hz fun H2 s2 => ?_
    wtm_at "w"
    refine c_first_missing (s2.seq hS) fun H3 s3 => ?_
    exact k _ (s2.trans s3)
/-! ### the answers -/
def gapB (ns : List Int) (m g : Int) : Bool := if ¬ (1 ≤ g ∧ g ≤ m) ∨ g ∈ ns then false else decide (slt g ns < g)
/-! ### weighing, without -/
def sp_weighing (K : PySem.W.Frag) (_ : Ca) : Sp := fun vs H Q _ => ∃ (a : Addr) (ws : List Int) (n : Int), vs = [.ref a, .int n] ∧ SqL K H a (ws.map V.int) ∧ Pos ws ∧ ws.length ≤ 16777214 ∧ 0 ≤ n ∧ n < fm ws ∧ RetL (wg ws n) H Q
theorem c_weighing {a : Addr} {ws : List Int} {n : Int} {H : Hp} {Q : VK} {E : XK} (h : SqL K H a (ws.map V.int)) (hp : Pos ws) (hz : ws.length ≤ 16777214) (h0 : 0 ≤ n) (h1 : n < fm ws) (k : ∀ p H2, H p = none → Same H H2 → H2 p = some (.lst ((wg ws n).map V.int)) → Q (.ref p) H2) :
    sp_weighing K c [.ref a, .int n] H Q E := ⟨a, ws, n, rfl, h, hp, hz, h0, h1, k⟩
theorem ok_weighing {f f0 f1 f2 : Addr} {fd fd0 fd1 fd2 : FuncData} (A : At K mg "weighing" sWeighing ["weights", "number"] f fd) (T : Tx K mg c) (G_is_number : FnAt P w K mg base CX0 1 "is_number" ["thing", "least"] (sp_is_number K c) f0 fd0) (G_asked_set : FnAt P w K mg base CX0 2 "asked_set" ["weights"] (sp_asked_set K c) f1 fd1) (G_first_missing : FnAt P w K mg base CX0 1 "first_missing" ["weights"] (sp_first_missing K c) f2 fd2) : FnAt P w K mg base CX0 3 "weighing" ["weights", "number"] (sp_weighing K c) f fd := by
  refine ⟨A.g, A.F.kp, A.b, A.F.ok sc_sWeighing (fun vs H Q E h => ?_) (fun cdv Ar outer s H vs Q E hr h => ?_)⟩
  · obtain ⟨a, ws, n, rfl, _⟩ := h
    rfl
  · obtain ⟨a, ws, n, rfl, hS, hp, hz, h0, h1, k⟩ := h
    refine ⟨(tSeq (tDrop (tCall (sp_asked_set K c) [] E0 (tCons (tVar 0) tNil)))
  (tSeq (tIfS (tOr (tNot (tB (tCall (sp_is_number K c) [] E0 (tCons (tVar 1) (tCons (tC (.int 0)) tNil))))) (tTest (tOp (rI0 fun i j => .bl (decide (j ≤ i))) (tVar 1) (tCall (sp_first_missing K c) [] E0 (tCons (tVar 0) tNil))))) tNever tNext)
  (tSeq (tAsg (tLst tNil) (gName 2))
  (tSeq (tAsg (tVar 1) (gName 3))
  (tSeq (tFor (iList K (tRevL K (tCB (rSortedPO K) (tCons (tLc (iEnum K (tCons (tVar 0) tNil)) (gTup K 2 (gCons (gName 5) (gCons (gName 4) gNil))) tYes (tTup (tCons (tVar 4) (tCons (tVar 5) tNil))) [5, 4]) tNil)))) (gTup K 2 (gCons (gName 4) (gCons (gName 5) gNil))) (tIfS (tTest (tOp (rI0 fun i j => .bl (decide (i ≤ j))) (tVar 4) (tVar 3))) (tSeq (tDrop (tBM K "list" rAppend (tVar 2) (tCons (tVar 5) tNil)))
  (tAsg (tOp (rI0 fun i j => .int (i - j)) (tVar 3) (tVar 4)) (gName 3))) tNext))
  (tRet (tCB (rSortedI K) (tCons (tVar 2) tNil)))))))), (pss_cons (ps_expr (pe_call G_asked_set.ok (hr.mono (by decide)) (by rfl) G_asked_set.g G_asked_set.kp G_asked_set.b .nil pass0 (pa_cons (pv 0) pa_nil)))
  (pss_cons (ps_if (PW.pt (pw_or (pt_not (pt_val (pe_call G_is_number.ok (hr.mono (by decide)) (by rfl) G_is_number.g G_is_number.kp G_is_number.b .nil pass0 (pa_cons (pv 1) (pa_cons pe_int pa_nil))))) (pw_or1 (pt_cmpR op_ge (pv 1) (pe_call G_first_missing.ok (hr.mono (by decide)) (by rfl) G_first_missing.g G_first_missing.kp G_first_missing.b .nil pass0 (pa_cons (pv 0) pa_nil)) (nomark _))))) (pss_one ps_never) pss_nil)
  (pss_cons (ps_set (i := 2) sc_sWeighing.nd rfl (Or.inl rfl) (pe_lst pa_nil))
  (pss_cons (ps_set (i := 3) sc_sWeighing.nd rfl (Or.inl rfl) (pv 1))
  (pss_cons (ps_for PassesOwn.never rfl (pi_list (pe_revL (pe_callB cr_sortedPO (by rfl) T.z_sorted bt_sorted (pa_cons (pe_lc (own := [("place", 5), ("weight", 4)]) (g := gTup K 2 (gCons (gName 5) (gCons (gName 4) gNil))) (tt := tYes) (te := (tTup (tCons (tVar 4) (tCons (tVar 5) tNil)))) rfl sc_sWeighing.nd (pi_enum (by rfl) T.z_enumerate (pa_cons (pv 0) pa_nil)) (blkOk_by (N := ["weights", "number", "found", "left", "weight", "place"]) (sc := defScope sWeighing) (by decide +kernel)) (fun _ _ _ _ _ => (pg_tup rfl (pgs_cons (pg_name (i := 5) sc_sWeighing.nd rfl (Or.inl rfl)) (pgs_cons (pg_name (i := 4) sc_sWeighing.nd rfl (Or.inl rfl)) pgs_nil)))) (fun _ _ _ _ _ => pts_nil) (fun _ _ _ _ _ => (pe_tup (pa_cons (pv 4) (pa_cons (pv 5) pa_nil))))) pa_nil)))) (pg_tup rfl (pgs_cons (pg_name (i := 4) sc_sWeighing.nd rfl (Or.inl rfl)) (pgs_cons (pg_name (i := 5) sc_sWeighing.nd rfl (Or.inl rfl)) pgs_nil))) (pss_one (ps_if (pt_cmpR op_le (pv 4) (pv 3) (nomark _)) (pss_cons (ps_expr (pe_bm PySem.F.plainAttrs_list PySem.F.slot_list_append PySem.F.type_list_append mt_append (pv 2) (pa_cons (pv 5) pa_nil)))
      (pss_one (ps_set (i := 3) sc_sWeighing.nd rfl (Or.inl rfl) (pe_op op_sub (pv 3) (pv 4))))) pss_nil)))
  (pss_one (ps_ret (pe_callB cr_sortedI (by rfl) T.z_sorted bt_sorted (pa_cons (pv 2) pa_nil))))))))), ?_⟩
    refine w_start (σ := [some _, some _, none, none, none, none]) rfl ?_
    wtm_at "w"
    refine c_asked_set hS hp (by omega) fun H2 s2 => ?_
    wtm_at "w"
    refine c_is_number trivial fun H3 s3 => ?_
    wtm_at "w"
    refine v_iff (show (!decide (0 ≤ n)) = false by rw [decide_eq_true h0]; rfl) ?_
    wtm_at "w"
    refine c_first_missing (by wtm_at "sq") fun H4 s4 => ?_
    wtm_at "w"
    refine v_iff (decide_eq_false (by omega)) ?_
    have sA := (s2.trans s3).trans s4
    wtm_at "w"
    refine v_newL (n := 0) (by decide) fun l H5 n5 s5 d5 => ?_
    wtm_at "w"
    have sB := sA.trans s5
    have nl : H l = none := sA.free n5
    refine v_lcE (σ2 := fun i n2 => [some (.ref a), some (.int n), some (.ref l), some (.int n), some (.int n2), some (.int (i : Int))]) (fun i n2 y H => PairAt H y n2 (i : Int)) (sB.seq hS) (by omega) (fun _ _ => rfl) (fun _ _ => rfl) (fun _ _ _ _ _ s h => h.same s) (fun _ _ _ _ _ _ _ hD h => h.stay hD) (fun i n2 H' hn s R h => ?_) (fun D H6 ys hD s6 d6 hl hr => ?_)
    · wtm_at "w"
      exact v_newL (n := 2) (by decide) fun t H6 n6 s6 d6 => h _ _ s6 ⟨t, rfl, d6⟩
    wtm_at "w"
    refine v_sortedP (ps := prs ws) (sq_h d6) (by rw [prs_length, hl]) (fun i v q hv hq => ?_) fun p H7 zs hn7 s7 d7 hk7 hm7 => ?_
    · have hi : i < ws.length := by
        have := (List.getElem?_eq_some_iff.mp hq).1
        rwa [prs_length] at this
      have e := prs_get (List.getElem?_eq_getElem hi)
      rw [hq] at e
      have e2 := Option.some.inj e
      rw [e2]
      exact hr i _ v (List.getElem?_eq_getElem hi) hv
    wtm_at "w"
    refine ⟨p, zs, rfl, sq_h d7, v_new fun p8 H8 n8 s8 d8 => ?_⟩
    have hk8 : ∀ y ∈ zs.reverse, PairAt H8 y (kf H6 y).1 (kf H6 y).2 := fun y hy => (hk7 y (List.mem_reverse.mp hy)).same s8
    have hm8 : zs.reverse.map (kf H6) = (srtP (prs ws)).reverse := by rw [List.map_reverse, hm7]
    have hlz : zs.reverse.length = ws.length := by
      have := congrArg List.length hm8
      rw [List.length_map, List.length_reverse, List.length_reverse, (srtP_perm _).length_eq, prs_length] at this
      rw [List.length_reverse]
      exact this
    have sC := ((sB.trans s6).trans s7).trans s8
    have dl := s8 _ _ (s7 _ _ (s6 _ _ d5))
    refine v_forG (emb := fun v : V => v) (ns := zs.reverse) (by rw [List.map_id']; exact sq_h d8) (fun r σ' H' => ∃ (left : Int) (acc : List Int) (y4 y5 : Option V), σ' = [some (.ref a), some (.int n), some (.ref l), some (.int left), y4, y5] ∧
      acc ++ (gr left (r.map (kf H6))).map (·.2) = (gr n (srtP (prs ws)).reverse).map (·.2) ∧ acc.length + r.length ≤ ws.length ∧ Same H H' ∧ (∀ y ∈ zs.reverse, PairAt H' y (kf H6 y).1 (kf H6 y).2) ∧ SqL K H' p8 zs.reverse ∧ H' l = some (.lst (acc.map V.int)))
      ⟨n, [], none, none, rfl, by rw [hm8]; rfl, by rw [hlz]; simp, sC, hk8, sq_h d8, dl⟩ (fun r σ' H' h => by obtain ⟨_, _, _, _, _, _, _, _, _, s, _⟩ := h; rw [List.map_id']; exact s) ?_ ?_
    · rintro pre v r σ' H' hmem ⟨left, acc, y4, y5, rfl, hg, hac, s9, hk9, d9, e9⟩
      have hv : v ∈ zs.reverse := by rw [hmem]; exact List.mem_append.mpr (.inr List.mem_cons_self)
      obtain ⟨t, ht1, ht2⟩ := hk9 v hv
      subst ht1
      rw [List.map_cons] at hg
      generalize hq : kf H6 (.ref t) = q at hg ht2
      obtain ⟨w1, pl⟩ := q
      refine g_pair (st_h ht2) ?_
      wtm_at "w"
      have hg2 : acc ++ (if w1 ≤ left then (w1, pl) :: gr (left - w1) (r.map (kf H6)) else gr left (r.map (kf H6))).map (·.2) = (gr n (srtP (prs ws)).reverse).map (·.2) := hg
      refine v_if (fun hc => ?_) (fun hc => ?_)
      · have hle := of_decide_eq_true hc
        rw [if_pos hle] at hg2
        wtm_at "w"
        refine v_ty (sq_h e9) ?_
        wtm_at "w"
        refine v_app e9 (by rw [List.length_map]; omega) ?_
        wtm_at "w"
        refine ⟨left - w1, acc ++ [pl], some (.int w1), some (.int pl), rfl, ?_, ?_, same_mut s9 nl, fun y hy => (hk9 y hy).stay e9, ?_, ?_⟩
        · rw [← hg2, List.append_assoc]
          rfl
        · rw [List.length_append, List.length_singleton]
          rw [List.length_cons] at hac
          omega
        · have nlp : p8 ≠ l := by
            intro e
            rw [e] at n8
            rw [s7 _ _ (s6 _ _ d5)] at n8
            cases n8
          rcases d9 with (d9 | ⟨o, d9⟩) | d9
          · exact .inl (.inl (by rw [upd_ne nlp]; exact d9))
          · exact .inl (.inr ⟨o, by rw [upd_ne nlp]; exact d9⟩)
          · exact .inr d9
        · rw [upd_same, List.map_append]
          rfl
      · have hle := of_decide_eq_false hc
        rw [if_neg hle] at hg2
        wtm_at "w"
        exact ⟨left, acc, some (.int w1), some (.int pl), rfl, hg2, by rw [List.length_cons] at hac; omega, s9, hk9, d9, e9⟩
    · rintro σ' H' ⟨left, acc, y4, y5, rfl, hg, hac, s9, hk9, d9, e9⟩
      have hg2 : acc = (gr n (srtP (prs ws)).reverse).map (·.2) := by
        rw [← hg]
        show acc = acc ++ []
        rw [List.append_nil]
      wtm_at "w"
      refine v_sorted (sq_h e9) fun q H10 n10 s10 d10 => ?_
      rw [hg2] at d10
      exact k q H10 (s9.free n10) (s9.trans s10) d10
/-! ### the law's own sets -/
def CW : Int := 1000000000000000000000000000005
def BW : Int := 2 ^ 200
structure Good (ws : List Int) : Prop where
  pos : Pos ws
  len : ws.length ≤ 119
  big : ∀ x ∈ ws, x ≤ BW
theorem Good.line {ws : List Int} (h : Good ws) : ws.length ≤ 16777215 := Nat.le_trans h.len (by decide)
def sp_law_set (K : PySem.W.Frag) (_ : Ca) : Sp := fun vs H Q _ => ∃ (a : Addr) (ns : List Int), vs = [.ref a] ∧ SqL K H a (ns.map V.int) ∧ ns.length ≤ 63 ∧ ∀ ws, Good ws → RetL ws H Q
theorem c_law_set {a : Addr} {ns : List Int} {H : Hp} {Q : VK} {E : XK} (h : SqL K H a (ns.map V.int)) (hz : ns.length ≤ 63) (k : ∀ ws p H2, Good ws → H p = none → Same H H2 → H2 p = some (.lst (ws.map V.int)) → Q (.ref p) H2) : sp_law_set K c [.ref a] H Q E :=
  ⟨a, ns, rfl, h, hz, fun ws hw p H2 h1 h2 h3 => k ws p H2 hw h1 h2 h3⟩
theorem Good.sum {ws : List Int} (h : Good ws) : 0 ≤ ws.sum ∧ ws.sum ≤ 119 * BW := by
  refine ⟨pos_sum h.pos, ?_⟩
  have : ∀ l : List Int, (∀ x ∈ l, x ≤ BW) → l.sum ≤ (l.length : Int) * BW := by
    intro l
    induction l with
    | nil => intro _; simp
    | cons a r ih =>
      intro hb
      have h1 := hb a List.mem_cons_self
      have h2 := ih fun x hx => hb x (List.mem_cons_of_mem _ hx)
      rw [List.sum_cons, List.length_cons, Int.natCast_add, Int.add_mul]
      omega
  have h1 := this ws h.big
  have h2 : (ws.length : Int) * BW ≤ 119 * BW := Int.mul_le_mul_of_nonneg_right (by have := h.len; omega) (by decide)
  omega
theorem Good.sum_lt {ws : List Int} (h : Good ws) : ws.sum.natAbs < 2 ^ 210 := by
  have ⟨h1, h2⟩ := h.sum
  have h3 : (119 : Int) * BW < 2 ^ 210 := by decide
  omega
structure Grow (acc : List Int) : Prop where
  pos : Pos acc
  big : acc.sum + CW ≤ 2 ^ acc.length * CW
theorem Grow.nil : Grow [] := ⟨Pos.nil, by decide⟩
theorem Grow.put {acc : List Int} {x : Int} (h : Grow acc) (h1 : 1 ≤ x) (h2 : x ≤ acc.sum + CW) : Grow (acc ++ [x]) := by
  refine ⟨h.pos.append (Pos.one h1), ?_⟩
  have hb := h.big
  rw [List.sum_append_int, List.sum_cons, List.sum_nil, List.length_append, List.length_singleton, Int.pow_succ]
  have e : (2 : Int) ^ acc.length * 2 * CW = 2 * ((2 : Int) ^ acc.length * CW) := by rw [Int.mul_comm ((2 : Int) ^ acc.length) 2, Int.mul_assoc]
  rw [e]
  omega
theorem mem_le_sum {l : List Int} (h : Pos l) {x : Int} (hx : x ∈ l) : x ≤ l.sum := by
  have e := (List.perm_cons_erase hx)
  rw [perm_sum e, List.sum_cons]
  have := pos_sum (h.sub fun y hy => List.mem_of_mem_erase (a := y) (b := x) hy)
  omega
theorem Grow.le {acc : List Int} (h : Grow acc) (hl : acc.length ≤ 63) {x : Int} (hx : x ∈ acc) : x ≤ 2 ^ 170 := by
  have h1 := mem_le_sum h.pos hx
  have h2 := h.big
  have h3 : (2 : Int) ^ acc.length ≤ 2 ^ 63 := by
    have := Nat.pow_le_pow_right (show 0 < 2 by decide) hl
    exact_mod_cast this
  have h4 : (2 : Int) ^ acc.length * CW ≤ 2 ^ 63 * CW := Int.mul_le_mul_of_nonneg_right h3 (by decide)
  have h5 : (2 : Int) ^ 63 * CW ≤ 2 ^ 170 := by decide
  have h6 : (0 : Int) ≤ CW := by decide
  omega
theorem ok_law_set {f : Addr} {fd : FuncData} (A : At K mg "_law_set" sLawSet ["_law_script"] f fd) (T : Tx K mg c) : FnAt P w K mg base CX0 1 "_law_set" ["_law_script"] (sp_law_set K c) f fd := by
  refine ⟨A.g, A.F.kp, A.b, A.F.ok sc_sLawSet (fun vs H Q E h => ?_) (fun cdv Ar outer s H vs Q E hr h => ?_)⟩
  · obtain ⟨a, ns, rfl, _⟩ := h
    rfl
  · obtain ⟨a, ns, rfl, hS, hz, k⟩ := h
    refine ⟨(tSeq (tAsg (tCB (rSum K) (tCons (tVar 0) tNil)) (gName 1))
  (tSeq (tAsg (tOp (rI (fun _ j => 0 < j) fun i j => .int (i % j)) (tOp (rI CDiv fun i j => .int (i / j)) (tVar 1) (tC (.int 7))) (tC (.int 5))) (gName 2))
  (tSeq (tAsg (tLst tNil) (gName 3))
  (tSeq (tAsg (tC (.int 0)) (gName 4))
  (tSeq (tFor (iList K (tVar 0)) (gName 5) (Evl.tCut (tIfS (tTest (tOp (rI0 fun i j => .bl (decide (i < j))) (tVar 2) (tC (.int 2)))) (tAsg (tOp (rI0 fun i j => .int (i + j)) (tC (.int 1)) (tOp (rI (fun _ j => 0 < j) fun i j => .int (i % j)) (tVar 5) (tOp (rIxT K) (tTup (tCons (tC (.int 6)) (tCons (tOp (rI CPow fun i j => .int (i ^ j.toNat)) (tC (.int 10)) (tC (.int 30))) tNil))) (tVar 2)))) (gName 6)) (tIfS (tTest (tOp rEq (tVar 2) (tC (.int 2)))) (tAsg (tOp (rI0 fun i j => .int (i + j)) (tC (.int 1)) (tOp (rI (fun _ j => 0 < j) fun i j => .int (i % j)) (tVar 5) (tC (.int 60)))) (gName 6)) (tSeq (tAsg (tOp (rI0 fun i j => .int (i + j)) (tC (.int 1)) (tOp (rI (fun _ j => 0 < j) fun i j => .int (i % j)) (tVar 5) (tOp (rI0 fun i j => .int (i + j)) (tVar 4) (tC (.int 1))))) (gName 6))
  (tIfS (tAnd (tTest (tOp rEq (tVar 2) (tC (.int 4)))) (tTest (tOp rEq (tOp (rI (fun _ j => 0 < j) fun i j => .int (i % j)) (tOp (rI CDiv fun i j => .int (i / j)) (tVar 5) (tC (.int 7))) (tC (.int 9))) (tC (.int 0))))) (tAsg (tOp (rI0 fun i j => .int (i + j)) (tOp (rI0 fun i j => .int (i + j)) (tVar 4) (tC (.int 2))) (tOp (rI (fun _ j => 0 < j) fun i j => .int (i % j)) (tOp (rI CDiv fun i j => .int (i / j)) (tVar 5) (tC (.int 63))) (tC (.int 4)))) (gName 6)) tNext))))
  (tSeq (tDrop (tBM K "list" rAppend (tVar 3) (tCons (tVar 6) tNil)))
  (tAsg (tOp (rI0 fun i j => .int (i + j)) (tVar 4) (tVar 6)) (gName 4)))))
  (Evl.tCut (tIfS (tTest (tOp rEq (tOp (rI (fun _ j => 0 < j) fun i j => .int (i % j)) (tOp (rI CDiv fun i j => .int (i / j)) (tVar 1) (tC (.int 5))) (tC (.int 3))) (tC (.int 1)))) (tAsg (tRevL K (tVar 3)) (gName 3)) tNext)
  (Evl.tCut (tIfS (tAnd (tTest (tOp rEq (tOp (rI (fun _ j => 0 < j) fun i j => .int (i % j)) (tOp (rI CDiv fun i j => .int (i / j)) (tVar 1) (tC (.int 15))) (tC (.int 9))) (tC (.int 2)))) (tTest (tOp (rNeD K) (tVar 3) (tLst tNil)))) (tAsg (tLc (iRng1 (tCons (tOp (rI0 fun i j => .int (i + j)) (tC (.int 80)) (tOp (rI (fun _ j => 0 < j) fun i j => .int (i % j)) (tVar 1) (tC (.int 40)))) tNil)) (gName 7) tYes (tOp (rI0 fun i j => .int (i + j)) (tOp (rIxL K) (tVar 3) (tOp (rI (fun _ j => 0 < j) fun i j => .int (i % j)) (tOp (rI CMulX fun i j => .int (i * j)) (tVar 7) (tVar 7)) (tCB (rLen K) (tCons (tVar 3) tNil)))) (tOp (rI CDiv fun i j => .int (i / j)) (tVar 7) (tCB (rLen K) (tCons (tVar 3) tNil)))) [7]) (gName 3)) tNext)
  (tRet (tVar 3))))))))), (pss_cons (ps_set (i := 1) sc_sLawSet.nd rfl (Or.inl rfl) (pe_callB (cr_sum rfl) (by rfl) T.z_sum bt_sum (pa_cons (pv 0) pa_nil)))
  (pss_cons (ps_set (i := 2) sc_sLawSet.nd rfl (Or.inl rfl) (pe_op op_mod (pe_op op_fdiv (pv 1) pe_int) pe_int))
  (pss_cons (ps_set (i := 3) sc_sLawSet.nd rfl (Or.inr rfl) (pe_lst pa_nil))
  (pss_cons (ps_set (i := 4) sc_sLawSet.nd rfl (Or.inl rfl) pe_int)
  (pss_cons (ps_for PassesOwn.never rfl (pi_list (pv 0)) (pg_name (i := 5) sc_sLawSet.nd rfl (Or.inl rfl)) (Evl.pss_cut (ps_if (pt_cmpR op_lt (pv 2) pe_int (nomark _)) (pss_one (ps_set (i := 6) sc_sLawSet.nd rfl (Or.inl rfl) (pe_op op_add pe_int (pe_op op_mod (pv 5) (pe_ix ix_tup (pe_tup (pa_cons pe_int (pa_cons (pe_op op_pow pe_int pe_int) pa_nil))) (pv 2) (fun _ _ => rfl)))))) (pss_one (ps_if (pt_cmpR op_eq (pv 2) pe_int (nomark _)) (pss_one (ps_set (i := 6) sc_sLawSet.nd rfl (Or.inl rfl) (pe_op op_add pe_int (pe_op op_mod (pv 5) pe_int)))) (pss_cons (ps_set (i := 6) sc_sLawSet.nd rfl (Or.inl rfl) (pe_op op_add pe_int (pe_op op_mod (pv 5) (pe_op op_add (pv 4) pe_int))))
        (pss_one (ps_if (PW.pt (pw_and (pt_cmpR op_eq (pv 2) pe_int (nomark _)) (pw_and1 (pt_cmpR op_eq (pe_op op_mod (pe_op op_fdiv (pv 5) pe_int) pe_int) pe_int (nomark _))))) (pss_one (ps_set (i := 6) sc_sLawSet.nd rfl (Or.inl rfl) (pe_op op_add (pe_op op_add (pv 4) pe_int) (pe_op op_mod (pe_op op_fdiv (pv 5) pe_int) pe_int)))) pss_nil))))))
    (pss_cons (ps_expr (pe_bm PySem.F.plainAttrs_list PySem.F.slot_list_append PySem.F.type_list_append mt_append (pv 3) (pa_cons (pv 6) pa_nil)))
    (pss_one (ps_set (i := 4) sc_sLawSet.nd rfl (Or.inl rfl) (pe_op op_add (pv 4) (pv 6)))))))
  (Evl.pss_cut (ps_if (pt_cmpR op_eq (pe_op op_mod (pe_op op_fdiv (pv 1) pe_int) pe_int) pe_int (nomark _)) (pss_one (ps_set (i := 3) sc_sLawSet.nd rfl (Or.inr rfl) (pe_revL (pv 3)))) pss_nil)
  (Evl.pss_cut (ps_if (PW.pt (pw_and (pt_cmpR op_eq (pe_op op_mod (pe_op op_fdiv (pv 1) pe_int) pe_int) pe_int (nomark _)) (pw_and1 (pt_cmpR (op_neD hr.units) (pv 3) (pe_lst pa_nil) (nomark _))))) (pss_one (ps_set (i := 3) sc_sLawSet.nd rfl (Or.inr rfl) (pe_lc (own := [("_law_at", 7)]) (g := gName 7) (tt := tYes) (te := (tOp (rI0 fun i j => .int (i + j)) (tOp (rIxL K) (tVar 3) (tOp (rI (fun _ j => 0 < j) fun i j => .int (i % j)) (tOp (rI CMulX fun i j => .int (i * j)) (tVar 7) (tVar 7)) (tCB (rLen K) (tCons (tVar 3) tNil)))) (tOp (rI CDiv fun i j => .int (i / j)) (tVar 7) (tCB (rLen K) (tCons (tVar 3) tNil))))) rfl sc_sLawSet.nd (pi_range1 (by rfl) T.z_range (pa_cons (pe_op op_add pe_int (pe_op op_mod (pv 1) pe_int)) pa_nil)) (blkOk_by (N := ["_law_script", "_law_mixed", "_law_kind", "_law_found", "_law_whole", "_law_cell", "_law_weight", "_law_at"]) (sc := defScope sLawSet) (by decide +kernel)) (fun _ _ _ _ _ => (pg_name (i := 7) sc_sLawSet.nd rfl (Or.inl rfl))) (fun _ _ _ _ _ => pts_nil) (fun _ _ _ _ _ => (pe_op op_add (pe_ix ix_list (pv 3) (pe_op op_mod (pe_op op_mulX (pv 7) (pv 7)) (pe_callB call_lenK (by rfl) T.z_len bt_len (pa_cons (pv 3) pa_nil))) (fun _ _ => rfl)) (pe_op op_fdiv (pv 7) (pe_callB call_lenK (by rfl) T.z_len bt_len (pa_cons (pv 3) pa_nil)))))))) pss_nil)
  (pss_one (ps_ret (pv 3)))))))))), ?_⟩
    refine w_start (σ := [some _, none, none, none, none, none, none, none]) rfl ?_
    wtm_at "w"
    refine v_newL (n := 0) (by decide) fun l H1 h1 s1 d1 => ?_
    wtm_at "w"
    generalize hmx : ns.sum = mx
    generalize hkd : mx / 7 % 5 = kd
    have hk : 0 ≤ kd ∧ kd < 5 := by omega
    refine v_forI (by wtm_at "sq") (fun r σ' H' => ∃ (acc : List Int) (y5 y6 : Option V), σ' = [some (.ref a), some (.int mx), some (.int kd), some (.ref l), some (.int acc.sum), y5, y6, none] ∧ acc.length + r.length = ns.length ∧ Grow acc ∧ Same H H' ∧ H' l = some (.lst (acc.map V.int)))
      ⟨[], none, none, rfl, Nat.zero_add _, Grow.nil, s1, d1⟩ (fun r σ' H' h => by obtain ⟨_, _, _, _, _, _, s, _⟩ := h; exact s.seq hS) ?_ ?_
    · rintro pre n r σ' H' _ ⟨acc, y5, y6, rfl, hlen, hg, s, d⟩
      have hcw : (0 : Int) ≤ CW := by decide
      have hsum := pos_sum hg.pos
      wtm_at "w"
      refine w_cut (fun σ' H' => ∃ x : Int, σ' = [some (.ref a), some (.int mx), some (.int kd), some (.ref l), some (.int acc.sum), some (.int n), some (.int x), none] ∧ 1 ≤ x ∧ x ≤ acc.sum + CW ∧ Same H H' ∧ H' l = some (.lst (acc.map V.int))) ?_ ?_
      · wtm_at "w"
        refine v_if (fun hc => ?_) (fun hc => ?_)
        · have hc' := of_decide_eq_true hc
          wtm_at "w"
          refine v_newL (n := 2) (by decide) fun t H2 h2 s2 d2 => ?_
          wtm_at "w"
          have hk01 : kd = 0 ∨ kd = 1 := by omega
          rcases hk01 with e | e
          · refine v_ixT (st_h d2) (v := .int 6) (by rw [e]; exact atI_nat (j := 0) rfl) ?_
            wtm_at "w"
            exact ⟨_, rfl, by omega, by unfold CW at *; omega, s.trans s2, s2 _ _ d⟩
          · refine v_ixT (st_h d2) (v := .int (10 ^ (30 : Int).toNat)) (by rw [e]; exact atI_nat (j := 1) rfl) ?_
            wtm_at "w"
            have e30 : (10 : Int) ^ (30 : Int).toNat = 1000000000000000000000000000000 := by decide
            rw [e30]
            refine v_I (by show (0 : Int) < _; decide) ?_
            wtm_at "w"
            have m1 := Int.emod_nonneg n (show (1000000000000000000000000000000 : Int) ≠ 0 by decide)
            have m2 := Int.emod_lt_of_pos n (show (0 : Int) < 1000000000000000000000000000000 by decide)
            exact ⟨_, rfl, by omega, by unfold CW at *; omega, s.trans s2, s2 _ _ d⟩
        · wtm_at "w"
          refine v_if (fun hc2 => ?_) (fun hc2 => ?_)
          · wtm_at "w"
            exact ⟨_, rfl, by omega, by unfold CW at *; omega, s, d⟩
          · wtm_at "w"
            have m1 := Int.emod_nonneg n (show acc.sum + 1 ≠ 0 by omega)
            have m2 := Int.emod_lt_of_pos n (show 0 < acc.sum + 1 by omega)
            refine v_and (d := decide (n / 7 % 9 = 0)) (fun _ q hq => ?_) (fun H2 s2 => ?_)
            · wtm_at "w"
              exact hq _ (Same.refl _)
            · refine v_if (fun hc3 => ?_) (fun hc3 => ?_)
              · wtm_at "w"
                exact ⟨_, rfl, by omega, by unfold CW at *; omega, s.trans s2, s2 _ _ d⟩
              · wtm_at "w"
                exact ⟨_, rfl, by omega, by unfold CW at *; omega, s.trans s2, s2 _ _ d⟩
      · rintro σ' H' ⟨x, rfl, hx1, hx2, s', d'⟩
        wtm_at "w"
        have hacc : acc.length ≤ 63 := by omega
        refine v_ty (sq_h d') ?_
        wtm_at "w"
        refine v_app d' (by rw [List.length_map]; omega) ?_
        wtm_at "w"
        refine ⟨acc ++ [x], some (.int n), some (.int x), ?_, ?_, hg.put hx1 hx2, same_mut s' h1, ?_⟩
        · rw [List.sum_append_int, List.sum_cons, List.sum_nil, Int.add_zero]
          rfl
        · rw [List.length_append, List.length_singleton, ← hlen, List.length_cons]; omega
        · rw [upd_same, List.map_append]; rfl
    · rintro σ' H' ⟨acc, y5, y6, rfl, hlen, hg, s, d⟩
      have hacc : acc.length ≤ 63 := by rw [List.length_nil] at hlen; omega
      wtm_at "w"
      refine w_cut (fun σ' H' => ∃ (l2 : Addr) (ws : List Int), σ' = [some (.ref a), some (.int mx), some (.int kd), some (.ref l2), some (.int acc.sum), y5, y6, none] ∧ Pos ws ∧ ws.length ≤ 63 ∧ (∀ x ∈ ws, x ≤ 2 ^ 170) ∧ Same H H' ∧ H l2 = none ∧ H' l2 = some (.lst (ws.map V.int))) ?_ ?_
      · wtm_at "w"
        refine v_if (fun hc => ?_) (fun hc => ?_)
        · wtm_at "w"
          refine v_rev (sq_h d) fun p H2 hp s2 d2 => ?_
          wtm_at "w"
          exact ⟨p, _, rfl, hg.pos.sub fun x hx => List.mem_reverse.mp hx, by rw [List.length_reverse]; exact hacc, fun x hx => hg.le hacc (List.mem_reverse.mp hx), s.trans s2, s.free hp, d2⟩
        · wtm_at "w"
          exact ⟨l, _, rfl, hg.pos, hacc, fun x hx => hg.le hacc hx, s, h1, d⟩
      · rintro σ' H' ⟨l2, ws, rfl, hp, hl, hb, s', n2, d'⟩
        refine w_cut (fun σ' H' => ∃ (l3 : Addr) (us : List Int) (y7 : Option V), σ' = [some (.ref a), some (.int mx), some (.int kd), some (.ref l3), some (.int acc.sum), y5, y6, y7] ∧ Good us ∧ Same H H' ∧ H l3 = none ∧ H' l3 = some (.lst (us.map V.int))) ?_ ?_
        · wtm_at "w"
          refine v_and (d := !decide (ws = [])) (fun _ q hq => ?_) (fun H2 s2 => ?_)
          · wtm_at "w"
            refine v_newL (n := 0) (by decide) fun e H3 he s3 d3 => ?_
            wtm_at "w"
            refine v_neL (ns := ws) (ms := []) (sq_h (s3 _ _ d')) (sq_h d3) ?_
            wtm_at "w"
            exact hq _ s3
          · refine v_if (fun hc => ?_) (fun hc => ?_)
            · have hne : ws ≠ [] := by
                intro e
                rw [e] at hc
                simp at hc
              have hlen1 : 0 < ws.length := List.length_pos_iff.mpr hne
              have hr : 0 ≤ mx % 40 ∧ mx % 40 < 40 := by omega
              have d2 : H2 l2 = some (.lst (ws.map V.int)) := s2 _ _ d'
              wtm_at "w"
              refine v_lcR (σ2 := fun i => [some (.ref a), some (.int mx), some (.int kd), some (.ref l2), some (.int acc.sum), y5, y6, some (.int (i : Int))]) (fun _ => true) (fun i => .int (ws.getD ((i : Int) * i % ws.length).toNat 0 + (i : Int) / ws.length)) (by omega) (by omega) (fun _ => rfl) (fun _ => rfl) (fun n H' _ _ R h => t_yes h) (fun i H3 hi _ s3 R h => ?_) (fun D H3 hD s3 d3 => ?_)
              · have m1 := Int.emod_nonneg ((i : Int) * i) (show (ws.length : Int) ≠ 0 by omega)
                have m2 := Int.emod_lt_of_pos ((i : Int) * i) (show (0 : Int) < (ws.length : Int) by omega)
                wtm_at "w"
                refine v_I (mulx_ok (a := 20) (b := 20) (by omega) (by omega) (by decide)) ?_
                wtm_at "w"
                exact h _ (Same.refl _)
              · rw [filter_yes, map_int] at d3
                wtm_at "w"
                refine ⟨D, _, _, rfl, ⟨fun x hx => ?_, ?_, fun x hx => ?_⟩, (s'.trans s2).trans s3, s'.free (s2.free hD), d3⟩
                · obtain ⟨i, hi, rfl⟩ := List.mem_map.mp hx
                  have m1 := Int.emod_nonneg ((i : Int) * i) (show (ws.length : Int) ≠ 0 by omega)
                  have m2 := Int.emod_lt_of_pos ((i : Int) * i) (show (0 : Int) < (ws.length : Int) by omega)
                  have := hp _ (getD_mem (ns := ws) (j := ((i : Int) * i % ws.length).toNat) (by omega))
                  have : 0 ≤ (i : Int) / ws.length := Int.ediv_nonneg (by omega) (by omega)
                  omega
                · rw [List.length_map, List.length_range]; omega
                · obtain ⟨i, hi, rfl⟩ := List.mem_map.mp hx
                  have hi' := List.mem_range.mp hi
                  have m1 := Int.emod_nonneg ((i : Int) * i) (show (ws.length : Int) ≠ 0 by omega)
                  have m2 := Int.emod_lt_of_pos ((i : Int) * i) (show (0 : Int) < (ws.length : Int) by omega)
                  have b1 := hb _ (getD_mem (ns := ws) (j := ((i : Int) * i % ws.length).toNat) (by omega))
                  have b2 : (i : Int) / ws.length ≤ i := Int.ediv_le_self _ (by omega)
                  have b3 : (2 : Int) ^ 170 + 119 ≤ BW := by decide
                  omega
            · wtm_at "w"
              have b3 : (2 : Int) ^ 170 ≤ BW := by decide
              exact ⟨l2, ws, _, rfl, ⟨hp, by omega, fun x hx => by have := hb x hx; omega⟩, s'.trans s2, n2, s2 _ _ d'⟩
        · rintro σ' H' ⟨l3, us, y7, rfl, hgood, s3, n3, d3⟩
          wtm_at "w"
          exact k us hgood l3 H' n3 s3 d3
/-! ### numbers of a range, some of them -/
def rng (lo : Int) (n : Nat) : List Int := (List.range n).map fun (i : Nat) => lo + (i : Int)
theorem rng_succ (lo : Int) (n : Nat) : rng lo (n + 1) = rng lo n ++ [lo + (n : Int)] := by
  unfold rng
  rw [List.range_succ, List.map_append]
  rfl
theorem rng_cons (lo : Int) (n : Nat) : rng lo (n + 1) = lo :: rng (lo + 1) n := by
  unfold rng
  rw [List.range_succ_eq_map, List.map_cons, List.map_map]
  congr 1
  · simp
  · refine List.map_congr_left fun i _ => ?_
    simp only [Function.comp]
    omega
theorem rng_length (lo : Int) (n : Nat) : (rng lo n).length = n := by simp [rng]
theorem rng_first {p : Int → Bool} : ∀ (n : Nat) (lo g : Int), lo ≤ g → g < lo + n → p g = true → (∀ x, lo ≤ x → x < g → p x = false) → ((rng lo n).filter p).getD 0 0 = g ∧ 0 < ((rng lo n).filter p).length
  | 0, lo, g, h1, h2, _, _ => by simp at h2; omega
  | n + 1, lo, g, h1, h2, h3, h4 => by
    rw [rng_cons, List.filter_cons]
    by_cases c : lo = g
    · subst c
      rw [if_pos h3]
      exact ⟨rfl, Nat.succ_pos _⟩
    · rw [if_neg (by rw [h4 lo (Int.le_refl _) (by omega)]; exact Bool.false_ne_true)]
      exact rng_first n (lo + 1) g (by omega) (by omega) h3 fun x a b => h4 x (by omega) b
theorem rise_len : ∀ {l : List Int} {a B : Int}, l.Pairwise (· < ·) → (∀ x ∈ l, a ≤ x ∧ x ≤ B) → a ≤ B + 1 → (l.length : Int) ≤ B + 1 - a
  | [], a, B, _, _, h => by simp; omega
  | x :: l, a, B, hp, hb, h => by
    obtain ⟨h1, h2⟩ := List.pairwise_cons.mp hp
    have h3 := hb x List.mem_cons_self
    have := rise_len (l := l) (a := x + 1) (B := B) h2 (fun y hy => ⟨by have := h1 y hy; omega, (hb y (List.mem_cons_of_mem _ hy)).2⟩) (by omega)
    rw [List.length_cons]
    omega
section
variable {K : PySem.W.Frag} {σ : L2.St} {H : Hp} {Q : VK} {te : TE} {tr : TA} {tt : TT} {g : TG} {vs : List Nat}
def LcR2 (g : TG) (tt : TT) (te : TE) (vs : List Nat) (σ : L2.St) (Q : VK) (ws : List V) (H1 : Hp) : Prop := ∃ i j : Int, ws = [.int i, .int j] ∧ (-(2 ^ 62) ≤ i ∧ i < 2 ^ 62 ∧ -(2 ^ 62) ≤ j ∧ j < 2 ^ 62) ∧ ∀ D, H1 D = none → ∃ W : Nat → Nat → Hp → Prop, (∃ m, W 0 m (upd H1 D (.lst []))) ∧ ∀ k m H, W k m H →
  ((Itr i (j - i).toNat).stop k H ∧ Q (.ref D) H) ∨ ((Itr i (j - i).toNat).go k H ∧ ∃ Nx : Hp → Prop, (∀ H', Nx H' → ∃ m', m' < m ∧ W (k + 1) m' H') ∧ ∀ x H', (Itr i (j - i).toNat).yld k H x H' → g x (wipe σ vs) H' fun σ2 H2 => wipe σ2 vs = wipe σ vs ∧ tt σ2 H2 fun b H3 =>
    if b = true then te σ2 H3 fun y H4 => ∃ acc, H4 D = some (.lst acc) ∧ acc.length < sizeLine ∧ Nx (upd H4 D (.lst (acc ++ [y]))) else Nx H3)
theorem w_lcR2 (k : tr σ H fun x H1 => LcR2 g tt te vs σ Q x H1) : tLc (iRng2 tr) g tt te vs σ H Q := k
theorem v_lcR2 {j : Nat} {lo n : Int} {σ2 : Int → L2.St} (p : Int → Bool) (hl : -100000 ≤ lo ∧ lo ≤ 100000) (hz : -100000 ≤ n ∧ n ≤ 100000) (hσ : ∀ i : Int, (wipe σ vs).set j (some (.int i)) = σ2 i) (hw : ∀ i, wipe (σ2 i) vs = wipe σ vs)
    (ht : ∀ (i : Int) (H' : Hp), lo ≤ i → i < n → Same H H' → ∀ R : Bool → Hp → Prop, (∀ H2, Same H' H2 → R (p i) H2) → tt (σ2 i) H' R)
    (he : ∀ (i : Int) (H' : Hp), lo ≤ i → i < n → p i = true → Same H H' → ∀ R : VK, (∀ H2, Same H' H2 → R (.int i) H2) → te (σ2 i) H' R)
    (k : ∀ D H2, H D = none → Same H H2 → H2 D = some (.lst (((rng lo (n - lo).toNat).filter p).map V.int)) → Q (.ref D) H2) : LcR2 (gName j) tt te vs σ Q [.int lo, .int n] H := by
  refine ⟨lo, n, rfl, by omega, fun D hD => lc_range (lo := lo) (n := (n - lo).toNat) (fun i H' => Same H H' ∧ H' D = some (.lst (((rng lo i).filter p).map V.int))) ⟨same_up hD, upd_same⟩ ?_ ?_⟩
  · intro i H' hi ⟨s1, d1⟩
    have hlen : (((rng lo i).filter p).map V.int).length < sizeLine := by
      refine fits_lt ?_
      rw [List.length_map]
      refine Nat.le_trans (List.length_filter_le _ _) ?_
      rw [rng_length]
      omega
    show wipe ((wipe σ vs).set j (some (.int (lo + (i : Int))))) vs = wipe σ vs ∧ tt ((wipe σ vs).set j (some (.int (lo + (i : Int))))) H' _
    rw [hσ]
    refine ⟨hw _, ?_⟩
    have hlo : lo ≤ lo + (i : Int) := by omega
    have hin : lo + (i : Int) < n := by omega
    refine ht _ H' hlo hin s1 _ fun H3 s3 => ?_
    have er : (rng lo (i + 1)).filter p = (rng lo i).filter p ++ if p (lo + (i : Int)) = true then [lo + (i : Int)] else [] := by
      rw [rng_succ, List.filter_append]
      congr 1
      cases c : p (lo + (i : Int)) with
      | true => simp [c]
      | false => simp [c]
    cases c : p (lo + (i : Int)) with
    | true =>
      rw [if_pos rfl]
      refine he _ H3 hlo hin c (s1.trans s3) _ fun H4 s4 => ?_
      rw [c, if_pos rfl] at er
      refine ⟨_, s4 _ _ (s3 _ _ d1), hlen, same_mut ((s1.trans s3).trans s4) hD, ?_⟩
      rw [upd_same, er, List.map_append]
      rfl
    | false =>
      rw [if_neg Bool.false_ne_true]
      rw [c, if_neg Bool.false_ne_true, List.append_nil] at er
      exact ⟨s1.trans s3, by rw [er]; exact s3 _ _ d1⟩
  · intro H' ⟨s1, d1⟩
    exact k D H' hD s1 d1
end
local macro_rules | `(tactic| wtm_at "w1") => `(tactic| (with_reducible refine w_lcR2 ?_))
/-! ### all sums, by trying -/
def SumsOf (ws os : List Int) : Prop := os.Pairwise (· < ·) ∧ ∀ n, n ∈ os ↔ Rep ws n
theorem SumsOf.len {ws os : List Int} (h : SumsOf ws os) (hp : Pos ws) : (os.length : Int) ≤ ws.sum + 1 := by
  have := rise_len (a := 0) (B := ws.sum) h.1 (fun x hx => ⟨Rep.nonneg hp ((h.2 x).mp hx), Rep.le_sum hp ((h.2 x).mp hx)⟩) (by have := pos_sum hp; omega)
  omega
theorem SumsOf.put {ws os us : List Int} {w : Int} (h : SumsOf ws os) (hu : us.Pairwise (· < ·)) (hm : ∀ n, n ∈ us ↔ n ∈ os ++ os.map (fun x => x + w)) : SumsOf (ws ++ [w]) us := by
  refine ⟨hu, fun n => ?_⟩
  rw [hm n, rep_snoc, List.mem_append, List.mem_map]
  refine or_congr (h.2 n) ⟨?_, fun k => ⟨n - w, (h.2 _).mpr k, by omega⟩⟩
  rintro ⟨x, hx, rfl⟩
  rw [show x + w - w = x by omega]
  exact (h.2 x).mp hx
def sp_law_sums (K : PySem.W.Frag) (_ : Ca) : Sp := fun vs H Q _ => ∃ (a : Addr) (ws : List Int), vs = [.ref a] ∧ SqL K H a (ws.map V.int) ∧ Pos ws ∧ ws.sum ≤ 100 ∧ ∀ os, SumsOf ws os → RetL os H Q
theorem c_law_sums {a : Addr} {ws : List Int} {H : Hp} {Q : VK} {E : XK} (h : SqL K H a (ws.map V.int)) (hp : Pos ws) (hz : ws.sum ≤ 100) (k : ∀ os p H2, SumsOf ws os → H p = none → Same H H2 → H2 p = some (.lst (os.map V.int)) → Q (.ref p) H2) : sp_law_sums K c [.ref a] H Q E :=
  ⟨a, ws, rfl, h, hp, hz, fun os ho p H2 h1 h2 h3 => k os p H2 ho h1 h2 h3⟩
theorem ok_law_sums {f : Addr} {fd : FuncData} (A : At K mg "_law_sums" sLawSums ["_law_weights"] f fd) (T : Tx K mg c) : FnAt P w K mg base CX0 1 "_law_sums" ["_law_weights"] (sp_law_sums K c) f fd := by
  refine ⟨A.g, A.F.kp, A.b, A.F.ok sc_sLawSums (fun vs H Q E h => ?_) (fun cdv Ar outer s H vs Q E hr h => ?_)⟩
  · obtain ⟨a, ws, rfl, _⟩ := h
    rfl
  · obtain ⟨a, ws, rfl, hS, hp, hz, k⟩ := h
    refine ⟨(tSeq (tAsg (tLst (tCons (tC (.int 0)) tNil)) (gName 1))
  (tSeq (tFor (iList K (tVar 0)) (gName 2) (tAsg (tCB (rSortedSetN w) (tCons (tCB (rSetL w K) (tCons (tOp rCat (tVar 1) (tLc (iList K (tVar 1)) (gName 3) tYes (tOp (rI0 fun i j => .int (i + j)) (tVar 3) (tVar 2)) [3])) tNil)) tNil)) (gName 1)))
  (tRet (tVar 1)))), (pss_cons (ps_set (i := 1) sc_sLawSums.nd rfl (Or.inl rfl) (pe_lst (pa_cons pe_int pa_nil)))
  (pss_cons (ps_for PassesOwn.never rfl (pi_list (pv 0)) (pg_name (i := 2) sc_sLawSums.nd rfl (Or.inr rfl)) (pss_one (ps_set (i := 1) sc_sLawSums.nd rfl (Or.inl rfl) (pe_callB (cr_sortedSetN rfl) (by rfl) T.z_sorted bt_sorted (pa_cons (pe_callTy (cr_setL rfl) (by rfl) T.z_set bt_set (pa_cons (pe_op op_cat (pv 1) (pe_lc (own := [("_law_one", 3)]) (g := gName 3) (tt := tYes) (te := (tOp (rI0 fun i j => .int (i + j)) (tVar 3) (tVar 2))) rfl sc_sLawSums.nd (pi_list (pv 1)) (blkOk_by (N := ["_law_weights", "_law_found", "_law_weight", "_law_one"]) (sc := defScope sLawSums) (by decide +kernel)) (fun _ _ _ _ _ => (pg_name (i := 3) sc_sLawSums.nd rfl (Or.inl rfl))) (fun _ _ _ _ _ => pts_nil) (fun _ _ _ _ _ => (pe_op op_add (pv 3) (pv 2))))) pa_nil)) pa_nil)))))
  (pss_one (ps_ret (pv 1))))), ?_⟩
    refine w_start (σ := [some _, none, none, none]) rfl ?_
    wtm_at "w"
    refine v_newL (n := 1) (by decide) fun l H1 n1 s1 d1 => ?_
    wtm_at "w"
    refine v_forI (s1.seq hS) (fun r σ' H' => ∃ (pre : List Int) (l : Addr) (os : List Int) (y2 : Option V), σ' = [some (.ref a), some (.ref l), y2, none] ∧ ws = pre ++ r ∧ SumsOf pre os ∧ Same H H' ∧ H l = none ∧ H' l = some (.lst (os.map V.int)))
      ⟨[], l, [0], none, rfl, rfl, ⟨List.pairwise_cons.mpr ⟨(fun _ h => nomatch h), List.Pairwise.nil⟩, fun n => List.mem_singleton⟩, s1, n1, d1⟩ (fun r σ' H' h => by obtain ⟨_, _, _, _, _, _, _, s, _⟩ := h; exact s.seq hS) ?_ ?_
    · rintro pre0 w1 r σ' H' _ ⟨pre, l, os, y2, rfl, hws, hso, s, nl, d⟩
      have hpp : Pos pre := hp.sub fun x hx => by rw [hws]; exact List.mem_append.mpr (.inl hx)
      have hpr : Pos (w1 :: r) := hp.sub fun x hx => by rw [hws]; exact List.mem_append.mpr (.inr hx)
      have hol : os.length ≤ 101 := by
        have h1 := hso.len hpp
        have h2 := pos_sum hpr
        have h3 : ws.sum = pre.sum + (w1 :: r).sum := by rw [hws, List.sum_append_int]
        omega
      wtm_at "w"
      refine v_lcI (σ2 := fun x => [some (.ref a), some (.ref l), some (.int w1), some (.int x)]) (fun _ => true) (fun x => .int (x + w1)) (sq_h d) (by omega) (fun _ => rfl) (fun _ _ => rfl) (fun n H' _ _ R h => t_yes h) (fun x H' hx _ s R h => ?_) (fun D H2 n2 s2 d2 => ?_)
      · wtm_at "w"
        exact h _ (Same.refl _)
      rw [filter_yes, map_int] at d2
      wtm_at "w"
      refine v_cat (s2 _ _ d) d2 (by rw [List.length_map]; omega) fun q3 H3 n3 s3 d3 => ?_
      wtm_at "w"
      refine v_setL (sq_h d3) (by rw [List.length_append, List.length_map]; omega) fun u4 cc H4 n4 s4 d4 hcc => ?_
      wtm_at "w"
      refine v_sortedSet d4 (by rw [List.length_append, List.length_map] at hcc; omega) fun u5 H5 us n5 s5 d5 hus hmu => ?_
      wtm_at "w"
      have sA := ((s.trans s2).trans s3).trans s4
      exact ⟨pre ++ [w1], u5, us, _, rfl, by rw [hws, List.append_assoc]; rfl, hso.put hus hmu, sA.trans s5, sA.free n5, d5⟩
    · rintro σ' H' ⟨pre, l, os, y2, rfl, hws, hso, s, nl, d⟩
      wtm_at "w"
      rw [List.append_nil] at hws
      subst hws
      exact k os hso l _ nl s d
/-! ### the law -/
def sp_law (K : PySem.W.Frag) : Sp := fun vs H Q _ => ∃ (a : Addr) (ns : List Int), vs = [.ref a] ∧ SqL K H a (ns.map V.int) ∧ ns.length ≤ 63 ∧ (∀ z ∈ ns, Builtin.Int.intBits z ≤ AA) ∧ ∀ H', Q (.bl true) H'
theorem law_ask {K : PySem.W.Frag} {H : Hp} (a : Addr) (ns : List Int) (h : ns.length ≤ 63) (hb : ∀ z ∈ ns, Builtin.Int.intBits z ≤ 1048576) (hS : SqL K H a (ns.map V.int)) : sp_law K [.ref a] H (fun v _ => v = .bl true) fun _ _ _ => False := ⟨a, ns, rfl, hS, h, hb, fun _ => rfl⟩
theorem few_sum : ∀ l : List Int, (l.map fun x => 1 + x % 7).sum ≤ 7 * (l.length : Int)
  | [] => by simp
  | x :: l => by
    have := few_sum l
    rw [List.map_cons, List.sum_cons, List.length_cons]
    omega
theorem few_pos (l : List Int) : Pos (l.map fun x => 1 + x % 7) := fun y hy => by
  obtain ⟨x, _, rfl⟩ := List.mem_map.mp hy
  omega
theorem Good.fm_lt {ws : List Int} (h : Good ws) : (fm ws).natAbs < 2 ^ 210 := by
  have h1 := fm_le_sum h.pos
  have h2 := fm_pos h.pos
  have ⟨_, h3⟩ := h.sum
  have h4 : (119 : Int) * BW + 1 < 2 ^ 210 := by decide
  omega
theorem ok_law {f f0 f1 f2 f3 : Addr} {fd fd0 fd1 fd2 fd3 : FuncData} (A : At K mg "law" sLaw ["_law_script"] f fd) (T : Tx K mg c) (G_first_gap : FnAt P w K mg base CX0 3 "first_gap" ["weights"] (sp_first_gap K c) f0 fd0) (G_weighing : FnAt P w K mg base CX0 3 "weighing" ["weights", "number"] (sp_weighing K c) f1 fd1) (G_law_set : FnAt P w K mg base CX0 1 "_law_set" ["_law_script"] (sp_law_set K c) f2 fd2) (G_law_sums : FnAt P w K mg base CX0 1 "_law_sums" ["_law_weights"] (sp_law_sums K c) f3 fd3) : FnAt P w K mg base CX0 4 "law" ["_law_script"] (sp_law K) f fd := by
  refine ⟨A.g, A.F.kp, A.b, A.F.ok sc_sLaw (fun vs H Q E h => ?_) (fun cdv Ar outer s H vs Q E hr h => ?_)⟩
  · obtain ⟨a, ns, rfl, _⟩ := h
    rfl
  · obtain ⟨a, ns, rfl, hS, hz, hbits, k⟩ := h
    refine ⟨(tSeq (tAsg (tSl (rSlL K) (tVar 0) tNoPart (tPart (tC (.int 63)))) (gName 0))
  (tSeq (tAsg (tCall (sp_law_set K c) [] E0 (tCons (tVar 0) tNil)) (gName 1))
  (tSeq (tAsg (tCall (sp_first_gap K c) [] E0 (tCons (tVar 1) tNil)) (gName 2))
  (tSeq (tAsg (tLc (iList K (tSl (rSlL K) (tVar 0) tNoPart (tPart (tC (.int 9))))) (gName 10) tYes (tOp (rI0 fun i j => .int (i + j)) (tC (.int 1)) (tOp (rI (fun _ j => 0 < j) fun i j => .int (i % j)) (tVar 10) (tC (.int 7)))) [10]) (gName 3))
  (tSeq (tAsg (tCall (sp_law_sums K c) [] E0 (tCons (tVar 3) tNil)) (gName 4))
  (tSeq (tAsg (tOp (rIxL K) (tLc (iRng2 (tCons (tC (.int 1)) (tCons (tOp (rI0 fun i j => .int (i + j)) (tOp (rI CMulX fun i j => .int (i * j)) (tCB (rLen K) (tCons (tVar 3) tNil)) (tC (.int 7))) (tC (.int 2))) tNil))) (gName 6) (tTest (tOp (rIn K true) (tVar 6) (tVar 4))) (tVar 6) [6]) (tC (.int 0))) (gName 5))
  (tSeq (tIfS (tTest (tOp rNe (tCall (sp_first_gap K c) [] E0 (tCons (tVar 3) tNil)) (tVar 5))) (tRet (tC (.bl false))) tNext)
  (tSeq (tFor (iRng1 (tCons (tVar 5) tNil)) (gName 6) (tIfS (tTest (tOp rNe (tCB (rSum K) (tCons (tLc (iList K (tCall (sp_weighing K c) [] E0 (tCons (tVar 3) (tCons (tVar 6) tNil)))) (gName 12) tYes (tOp (rIxL K) (tVar 3) (tVar 12)) [12]) tNil)) (tVar 6))) (tRet (tC (.bl false))) tNext))
  (tSeq (tAsg (tOp (rI CDiv fun i j => .int (i / j)) (tCB (rLen K) (tCons (tVar 1) tNil)) (tC (.int 2))) (gName 7))
  (tSeq (tAsg (tCall (sp_first_gap K c) [] E0 (tCons (tSl (rSlL K) (tVar 1) tNoPart (tPart (tVar 7))) tNil)) (gName 8))
  (tSeq (tAsg (tCall (sp_first_gap K c) [] E0 (tCons (tSl (rSlL K) (tVar 1) (tPart (tVar 7)) tNoPart) tNil)) (gName 9))
  (tSeq (tIfS (tOr (tTest (tOp (rI0 fun i j => .bl (decide (i < j))) (tVar 2) (tOp (rI0 fun i j => .int (i - j)) (tOp (rI0 fun i j => .int (i + j)) (tVar 8) (tVar 9)) (tC (.int 1))))) (tOr (tTest (tOp (rI0 fun i j => .bl (decide (i < j))) (tVar 2) (tVar 8))) (tTest (tOp (rI0 fun i j => .bl (decide (i < j))) (tVar 2) (tVar 9))))) (tRet (tC (.bl false))) tNext)
  (tSeq (tIfS (tOr (tTest (tOp rNe (tCall (sp_first_gap K c) [] E0 (tCons (tRevL K (tVar 1)) tNil)) (tVar 2))) (tTest (tOp rNe (tCall (sp_first_gap K c) [] E0 (tCons (tCB (rSortedI K) (tCons (tVar 1) tNil)) tNil)) (tVar 2)))) (tRet (tC (.bl false))) tNext)
  (tSeq (tFor (iList K (tOp rCat (tSl (rSlL K) (tVar 0) tNoPart (tPart (tC (.int 4)))) (tLst (tCons (tC (.int 0)) tNil)))) (gName 10) (tSeq (tAsg (tCall (sp_first_gap K c) [] E0 (tCons (tOp rCat (tVar 1) (tLst (tCons (tOp (rI0 fun i j => .int (i + j)) (tC (.int 1)) (tOp (rI (fun _ j => 0 < j) fun i j => .int (i % j)) (tVar 10) (tOp (rI CMulX fun i j => .int (i * j)) (tC (.int 2)) (tVar 2)))) tNil))) tNil)) (gName 11))
  (tIfS (tOr (tTest (tOp (rI0 fun i j => .bl (decide (i < j))) (tVar 11) (tVar 2))) (tAnd (tTest (tOp rEq (tVar 11) (tVar 2))) (tTest (tOp (rI0 fun i j => .bl (decide (i < j))) (tOp (rI (fun _ j => 0 < j) fun i j => .int (i % j)) (tVar 10) (tOp (rI CMulX fun i j => .int (i * j)) (tC (.int 2)) (tVar 2))) (tVar 2))))) (tRet (tC (.bl false))) tNext)))
  (tRet (tAndV (tOp (rI0 fun i j => .bl (decide (j ≤ i))) (tCall (sp_first_gap K c) [] E0 (tCons (tOp rCat (tVar 1) (tLst (tCons (tVar 2) tNil))) tNil)) (tOp (rI CMulX fun i j => .int (i * j)) (tC (.int 2)) (tVar 2))) (tOp rEq (tCall (sp_first_gap K c) [] E0 (tCons (tOp rCat (tVar 1) (tLst (tCons (tOp (rI0 fun i j => .int (i + j)) (tVar 2) (tC (.int 1))) tNil))) tNil)) (tVar 2)))))))))))))))))), (pss_cons (ps_set (i := 0) sc_sLaw.nd rfl (Or.inl rfl) (pe_slice sl_list (pv 0) po_none (po_some pe_int)))
  (pss_cons (ps_set (i := 1) sc_sLaw.nd rfl (Or.inl rfl) (pe_call G_law_set.ok (hr.mono (by decide)) (by rfl) G_law_set.g G_law_set.kp G_law_set.b .nil pass0 (pa_cons (pv 0) pa_nil)))
  (pss_cons (ps_set (i := 2) sc_sLaw.nd rfl (Or.inl rfl) (pe_call G_first_gap.ok (hr.mono (by decide)) (by rfl) G_first_gap.g G_first_gap.kp G_first_gap.b .nil pass0 (pa_cons (pv 1) pa_nil)))
  (pss_cons (ps_set (i := 3) sc_sLaw.nd rfl (Or.inr rfl) (pe_lc (own := [("_law_cell", 10)]) (g := gName 10) (tt := tYes) (te := (tOp (rI0 fun i j => .int (i + j)) (tC (.int 1)) (tOp (rI (fun _ j => 0 < j) fun i j => .int (i % j)) (tVar 10) (tC (.int 7))))) rfl sc_sLaw.nd (pi_list (pe_slice sl_list (pv 0) po_none (po_some pe_int))) (blkOk_by (N := ["_law_script", "_law_weights", "_law_gap_here", "_law_few", "_law_sums_here", "_law_least", "_law_number", "_law_half", "_law_one", "_law_other", "_law_cell", "_law_more", "_law_place"]) (sc := defScope sLaw) (by decide +kernel)) (fun _ _ _ _ _ => (pg_name (i := 10) sc_sLaw.nd rfl (Or.inl rfl))) (fun _ _ _ _ _ => pts_nil) (fun _ _ _ _ _ => (pe_op op_add pe_int (pe_op op_mod (pv 10) pe_int)))))
  (pss_cons (ps_set (i := 4) sc_sLaw.nd rfl (Or.inr rfl) (pe_call G_law_sums.ok (hr.mono (by decide)) (by rfl) G_law_sums.g G_law_sums.kp G_law_sums.b .nil pass0 (pa_cons (pv 3) pa_nil)))
  (pss_cons (ps_set (i := 5) sc_sLaw.nd rfl (Or.inl rfl) (pe_ix ix_list (pe_lc (own := [("_law_number", 6)]) (g := gName 6) (tt := (tTest (tOp (rIn K true) (tVar 6) (tVar 4)))) (te := (tVar 6)) rfl sc_sLaw.nd (pi_range2 (by rfl) T.z_range (pa_cons pe_int (pa_cons (pe_op op_add (pe_op op_mulX (pe_callB call_lenK (by rfl) T.z_len bt_len (pa_cons (pv 3) pa_nil)) pe_int) pe_int) pa_nil))) (blkOk_by (N := ["_law_script", "_law_weights", "_law_gap_here", "_law_few", "_law_sums_here", "_law_least", "_law_number", "_law_half", "_law_one", "_law_other", "_law_cell", "_law_more", "_law_place"]) (sc := defScope sLaw) (by decide +kernel)) (fun _ _ _ _ _ => (pg_name (i := 6) sc_sLaw.nd rfl (Or.inl rfl))) (fun _ _ _ _ _ => (pts_one (pt_cmpR op_notIn_seq (pv 6) (pv 4) (by rfl)))) (fun _ _ _ _ _ => (pv 6))) pe_int (fun _ _ => rfl)))
  (pss_cons (ps_if (pt_cmpR op_ne (pe_call G_first_gap.ok (hr.mono (by decide)) (by rfl) G_first_gap.g G_first_gap.kp G_first_gap.b .nil pass0 (pa_cons (pv 3) pa_nil)) (pv 5) (nomark _)) (pss_one (ps_ret pe_bl)) pss_nil)
  (pss_cons (ps_for PassesOwn.never rfl (pi_range1 (by rfl) T.z_range (pa_cons (pv 5) pa_nil)) (pg_name (i := 6) sc_sLaw.nd rfl (Or.inl rfl)) (pss_one (ps_if (pt_cmpR op_ne (pe_callB (cr_sum rfl) (by rfl) T.z_sum bt_sum (pa_cons (pe_lc (own := [("_law_place", 12)]) (g := gName 12) (tt := tYes) (te := (tOp (rIxL K) (tVar 3) (tVar 12))) rfl sc_sLaw.nd (pi_list (pe_call G_weighing.ok (hr.mono (by decide)) (by rfl) G_weighing.g G_weighing.kp G_weighing.b .nil pass0 (pa_cons (pv 3) (pa_cons (pv 6) pa_nil)))) (blkOk_by (N := ["_law_script", "_law_weights", "_law_gap_here", "_law_few", "_law_sums_here", "_law_least", "_law_number", "_law_half", "_law_one", "_law_other", "_law_cell", "_law_more", "_law_place"]) (sc := defScope sLaw) (by decide +kernel)) (fun _ _ _ _ _ => (pg_name (i := 12) sc_sLaw.nd rfl (Or.inl rfl))) (fun _ _ _ _ _ => pts_nil) (fun _ _ _ _ _ => (pe_ix ix_list (pv 3) (pv 12) (fun _ _ => rfl)))) pa_nil)) (pv 6) (nomark _)) (pss_one (ps_ret pe_bl)) pss_nil)))
  (pss_cons (ps_set (i := 7) sc_sLaw.nd rfl (Or.inl rfl) (pe_op op_fdiv (pe_callB call_lenK (by rfl) T.z_len bt_len (pa_cons (pv 1) pa_nil)) pe_int))
  (pss_cons (ps_set (i := 8) sc_sLaw.nd rfl (Or.inl rfl) (pe_call G_first_gap.ok (hr.mono (by decide)) (by rfl) G_first_gap.g G_first_gap.kp G_first_gap.b .nil pass0 (pa_cons (pe_slice sl_list (pv 1) po_none (po_some (pv 7))) pa_nil)))
  (pss_cons (ps_set (i := 9) sc_sLaw.nd rfl (Or.inl rfl) (pe_call G_first_gap.ok (hr.mono (by decide)) (by rfl) G_first_gap.g G_first_gap.kp G_first_gap.b .nil pass0 (pa_cons (pe_slice sl_list (pv 1) (po_some (pv 7)) po_none) pa_nil)))
  (pss_cons (ps_if (PW.pt (pw_or (pt_cmpR op_lt (pv 2) (pe_op op_sub (pe_op op_add (pv 8) (pv 9)) pe_int) (nomark _)) (pw_or (pt_cmpR op_lt (pv 2) (pv 8) (nomark _)) (pw_or1 (pt_cmpR op_lt (pv 2) (pv 9) (nomark _)))))) (pss_one (ps_ret pe_bl)) pss_nil)
  (pss_cons (ps_if (PW.pt (pw_or (pt_cmpR op_ne (pe_call G_first_gap.ok (hr.mono (by decide)) (by rfl) G_first_gap.g G_first_gap.kp G_first_gap.b .nil pass0 (pa_cons (pe_revL (pv 1)) pa_nil)) (pv 2) (nomark _)) (pw_or1 (pt_cmpR op_ne (pe_call G_first_gap.ok (hr.mono (by decide)) (by rfl) G_first_gap.g G_first_gap.kp G_first_gap.b .nil pass0 (pa_cons (pe_callB cr_sortedI (by rfl) T.z_sorted bt_sorted (pa_cons (pv 1) pa_nil)) pa_nil)) (pv 2) (nomark _))))) (pss_one (ps_ret pe_bl)) pss_nil)
  (pss_cons (ps_for PassesOwn.never rfl (pi_list (pe_op op_cat (pe_slice sl_list (pv 0) po_none (po_some pe_int)) (pe_lst (pa_cons pe_int pa_nil)))) (pg_name (i := 10) sc_sLaw.nd rfl (Or.inl rfl)) (pss_cons (ps_set (i := 11) sc_sLaw.nd rfl (Or.inl rfl) (pe_call G_first_gap.ok (hr.mono (by decide)) (by rfl) G_first_gap.g G_first_gap.kp G_first_gap.b .nil pass0 (pa_cons (pe_op op_cat (pv 1) (pe_lst (pa_cons (pe_op op_add pe_int (pe_op op_mod (pv 10) (pe_op op_mulX pe_int (pv 2)))) pa_nil))) pa_nil)))
    (pss_one (ps_if (PW.pt (pw_or (pt_cmpR op_lt (pv 11) (pv 2) (nomark _)) (pw_or1 (PW.pt (pw_and (pt_cmpR op_eq (pv 11) (pv 2) (nomark _)) (pw_and1 (pt_cmpR op_lt (pe_op op_mod (pv 10) (pe_op op_mulX pe_int (pv 2))) (pv 2) (nomark _)))))))) (pss_one (ps_ret pe_bl)) pss_nil))))
  (pss_one (ps_ret (pe_and (pe_cmpR op_ge (pe_call G_first_gap.ok (hr.mono (by decide)) (by rfl) G_first_gap.g G_first_gap.kp G_first_gap.b .nil pass0 (pa_cons (pe_op op_cat (pv 1) (pe_lst (pa_cons (pv 2) pa_nil))) pa_nil)) (pe_op op_mulX pe_int (pv 2)) (nomark _)) (pe_one (pe_cmpR op_eq (pe_call G_first_gap.ok (hr.mono (by decide)) (by rfl) G_first_gap.g G_first_gap.kp G_first_gap.b .nil pass0 (pa_cons (pe_op op_cat (pv 1) (pe_lst (pa_cons (pe_op op_add (pv 2) pe_int) pa_nil))) pa_nil)) (pv 2) (nomark _)))))))))))))))))))), ?_⟩
    refine w_start (σ := [some _, none, none, none, none, none, none, none, none, none, none, none, none]) rfl ?_
    wtm_at "w"
    refine v_sliceT hS (by decide) fun p1 H1 n1 s1 d1 => ?_
    rw [show ns.take (63 : Int).toNat = ns from List.take_of_length_le hz] at d1
    wtm_at "w"
    refine c_law_set (sq_h d1) hz fun ws p2 H2 hg n2 s2 d2 => ?_
    have hp := hg.pos
    have hl := hg.line
    have hlen := hg.len
    wtm_at "w"
    refine c_first_gap (sq_h d2) hp hl fun H3 s3 => ?_
    wtm_at "w"
    have hg0 := fm_pos hp
    have f1 : H3 p1 = some (.lst (ns.map V.int)) := by wtm_at "hp"
    have f2 : H3 p2 = some (.lst (ws.map V.int)) := by wtm_at "hp"
    clear d1 d2 n1 n2 s1 s2 s3
    refine v_sliceT (sq_h f1) (by decide) fun q4 H4 n4 s4 d4 => ?_
    wtm_at "w"
    have h9 : (ns.take (9 : Int).toNat).length ≤ 9 := by rw [List.length_take]; exact Nat.min_le_left _ _
    generalize ns.take (9 : Int).toNat = n9 at h9 d4
    refine v_lcI (σ2 := fun x => [some (.ref p1), some (.ref p2), some (.int (fm ws)), none, none, none, none, none, none, none, some (.int x), none, none]) (fun _ => true) (fun x => .int (1 + x % 7)) (sq_h d4) (by omega) (fun _ => rfl) (fun _ _ => rfl) (fun n H' _ _ R h => t_yes h) (fun x H' hx _ s R h => ?_) (fun p3 H5 n5 s5 d5 => ?_)
    · wtm_at "w"
      exact h _ (Same.refl _)
    rw [filter_yes, map_int] at d5
    have hfp := few_pos n9
    have hfs := few_sum n9
    have hfl : (n9.map fun x => 1 + x % 7).length ≤ 9 := by rw [List.length_map]; exact h9
    have hfs2 : (n9.map fun x => 1 + x % 7).sum ≤ 7 * ((n9.map fun x => 1 + x % 7).length : Int) := by rw [List.length_map]; exact hfs
    generalize (n9.map fun x => 1 + x % 7) = fws at d5 hfp hfl hfs2
    clear hfs
    wtm_at "w"
    refine c_law_sums (sq_h d5) hfp (by omega) fun os p4 H6 hso n6 s6 d6 => ?_
    have g1 : H6 p1 = some (.lst (ns.map V.int)) := by wtm_at "hp"
    have g2 : H6 p2 = some (.lst (ws.map V.int)) := by wtm_at "hp"
    have g3 : H6 p3 = some (.lst (fws.map V.int)) := s6 _ _ d5
    clear f1 f2 n4 s4 d4 n5 s5 d5 n6 s6
    have hf0 := fm_pos hfp
    have hf1 := fm_le_sum hfp
    wtm_at "w"
    refine v_I (mulx_ok (a := 20) (b := 20) (by omega) (by decide) (by decide)) ?_
    wtm_at "w"
    refine v_lcR2 (σ2 := fun x => [some (.ref p1), some (.ref p2), some (.int (fm ws)), some (.ref p3), some (.ref p4), none, some (.int x), none, none, none, none, none, none]) (fun x => !decide (x ∈ os)) (by decide) (by omega) (fun _ => rfl) (fun _ => rfl) (fun x H' _ _ s R h => ?_) (fun x H' _ _ _ s R h => ?_) (fun q7 H7 n7 s7 d7 => ?_)
    · wtm_at "w"
      refine v_notIn (sq_h (s _ _ d6)) ?_
      wtm_at "w"
      exact h _ (Same.refl _)
    · wtm_at "w"
      exact h _ (Same.refl _)
    have hfirst := rng_first (p := fun x => !decide (x ∈ os)) (fws.length * 7 + 2 - 1 : Int).toNat 1 (fm fws) hf0 (by omega) (by
      show (!decide (fm fws ∈ os)) = true
      rw [decide_eq_false fun z => not_rep_fm hfp ((hso.2 _).mp z)]
      rfl) (fun x h1 h2 => by
      show (!decide (x ∈ os)) = false
      rw [decide_eq_true ((hso.2 x).mpr (rep_fm (by omega) h2))]
      rfl)
    wtm_at "w"
    refine v_ixL (sq_h d7) (at_get (by decide) (by omega)) ?_
    rw [show (0 : Int).toNat = 0 from rfl, hfirst.1]
    have g1' := s7 _ _ g1
    have g2' := s7 _ _ g2
    have g3' := s7 _ _ g3
    clear g1 g2 g3 d6 d7 n7 s7 hfirst
    wtm_at "w"
    refine c_first_gap (sq_h g3') hfp (by omega) fun H8 s8 => ?_
    wtm_at "w"
    refine v_iff (by simp) ?_
    have e1 := s8 _ _ g1'
    have e2 := s8 _ _ g2'
    have e3 := s8 _ _ g3'
    clear g1' g2' g3' s8
    wtm_at "w"
    refine v_forR1 ⟨by omega, by omega⟩ (fun _ σ' H' => ∃ y6 : Option V, σ' = [some (.ref p1), some (.ref p2), some (.int (fm ws)), some (.ref p3), some (.ref p4), some (.int (fm fws)), y6, none, none, none, none, none, none] ∧ Same H8 H') ⟨none, rfl, Same.refl _⟩ ?_ ?_
    · rintro i σ' H' hi ⟨y6, rfl, s9⟩
      have f3 := s9 _ _ e3
      have hwl := wg_length fws (i : Int)
      wtm_at "w"
      refine c_weighing (sq_h f3) hfp (by omega) (by omega) hi fun l J1 m1 j1 i1 => ?_
      wtm_at "w"
      refine v_lcI (σ2 := fun x => [some (.ref p1), some (.ref p2), some (.int (fm ws)), some (.ref p3), some (.ref p4), some (.int (fm fws)), some (.int (i : Int)), none, none, none, none, none, some (.int x)]) (fun _ => true) (fun x => .int (fws.getD x.toNat 0)) (sq_h i1) (by omega) (fun _ => rfl) (fun _ _ => rfl) (fun n H' _ _ R h => t_yes h) (fun x H' hx _ s R h => ?_) (fun D J2 m2 j2 i2 => ?_)
      · obtain ⟨i, rfl, hi⟩ := wg_mem hx
        wtm_at "w"
        refine v_ixL (sq_h (s _ _ (j1 _ _ f3))) (at_get (by omega) (by omega)) ?_
        exact h _ (Same.refl _)
      rw [filter_yes, map_int] at i2
      wtm_at "w"
      refine v_iff (by rw [wg_sum (by omega) hi]; simp) ?_
      wtm_at "w"
      exact ⟨_, rfl, s9.trans (j1.trans j2)⟩
    · rintro σ' H' ⟨y6, rfl, s9⟩
      have f1 := s9 _ _ e1
      have f2 := s9 _ _ e2
      clear e1 e2 e3 s9 hso
      wtm_at "w"
      have hhalf : 0 ≤ (ws.length : Int) / 2 := by omega
      generalize (ws.length : Int) / 2 = half at hhalf
      refine v_sliceT (sq_h f2) hhalf fun q1 J1 m1 j1 i1 => ?_
      wtm_at "w"
      have hpt : Pos (ws.take half.toNat) := hp.sub fun x hx => List.mem_of_mem_take hx
      have hpd : Pos (ws.drop half.toNat) := hp.sub fun x hx => List.mem_of_mem_drop hx
      refine c_first_gap (sq_h i1) hpt (by rw [List.length_take]; omega) fun J2 j2 => ?_
      have j12 := j1.trans j2
      wtm_at "w"
      refine v_sliceF (sq_h (j12 _ _ f2)) hhalf fun q3 J3 m3 j3 i3 => ?_
      wtm_at "w"
      refine c_first_gap (sq_h i3) hpd (by rw [List.length_drop]; omega) fun J4 j4 => ?_
      have jA := (j12.trans j3).trans j4
      have t1 := fm_app hpt hpd
      have t2 := fm_app_left hpt hpd
      have t3 := fm_app_right hpt hpd
      rw [List.take_append_drop] at t1 t2 t3
      wtm_at "w"
      refine v_iff (decide_eq_false (by omega)) ?_
      wtm_at "w"
      refine v_iff (decide_eq_false (by omega)) ?_
      wtm_at "w"
      refine v_iff (decide_eq_false (by omega)) ?_
      generalize fm (ws.take half.toNat) = one
      generalize fm (ws.drop half.toNat) = other
      have g1 := jA _ _ f1
      have g2 := jA _ _ f2
      clear f1 f2 j1 j2 j12 j3 j4 jA i1 i3 m1 m3 t1 t2 t3
      wtm_at "w"
      refine v_rev (sq_h g2) fun q5 J5 m5 j5 i5 => ?_
      wtm_at "w"
      refine c_first_gap (sq_h i5) (hp.perm (List.reverse_perm _)) (by rw [List.length_reverse]; omega) fun J6 j6 => ?_
      wtm_at "w"
      refine v_iff (by rw [fm_perm (List.reverse_perm ws)]; simp) ?_
      have j56 := j5.trans j6
      wtm_at "w"
      refine v_sorted (sq_h (j56 _ _ g2)) fun q7 J7 m7 j7 i7 => ?_
      wtm_at "w"
      refine c_first_gap (sq_h i7) (hp.perm (srt_perm ws)) (by rw [srt_length]; omega) fun J8 j8 => ?_
      wtm_at "w"
      refine v_iff (by rw [fm_perm (srt_perm ws)]; simp) ?_
      have jB := (j56.trans j7).trans j8
      have h1 := jB _ _ g1
      have h2 := jB _ _ g2
      clear g1 g2 j5 j6 j56 j7 j8 jB i5 i7 m5 m7
      wtm_at "w"
      refine v_sliceT (sq_h h1) (by decide) fun q9 J9 m9 j9 i9 => ?_
      wtm_at "w"
      refine v_newL (n := 1) (by decide) fun q10 J10 m10 j10 i10 => ?_
      wtm_at "w"
      refine v_cat (ms := [0]) (j10 _ _ i9) i10 (by rw [List.length_take]; simp only [List.length_cons, List.length_nil]; omega) fun q11 J11 m11 j11 i11 => ?_
      have jC := (j9.trans j10).trans j11
      have a2 := jC _ _ h2
      generalize ns.take (4 : Int).toNat ++ [0] = nums at i11
      clear jC j9 j10 j11 i9 i10 m9 m10 m11 h1 h2
      wtm_at "w"
      refine v_forI (ns := nums) (sq_h i11) (fun r σ' H' => ∃ y10 y11 : Option V, σ' = [some (.ref p1), some (.ref p2), some (.int (fm ws)), some (.ref p3), some (.ref p4), some (.int (fm fws)), y6, some (.int half), some (.int one), some (.int other), y10, y11, none] ∧ Same J11 H')
        ⟨none, none, rfl, Same.refl _⟩ (fun r σ' H' h => by obtain ⟨_, _, _, s⟩ := h; exact s.seq (sq_h i11)) ?_ ?_
      · rintro pre x r σ' H' _ ⟨y10, y11, rfl, s12⟩
        have b2 := s12 _ _ a2
        have hx1 := Int.emod_nonneg x (show 2 * fm ws ≠ 0 by omega)
        wtm_at "w"
        refine v_I (mulx_ok (a := 2) (b := 210) (by decide) hg.fm_lt (by decide)) ?_
        wtm_at "w"
        refine v_newL (n := 1) (by decide) fun u1 J1 m1 j1 i1 => ?_
        wtm_at "w"
        refine v_cat (ns := ws) (ms := [1 + x % (2 * fm ws)]) (j1 _ _ b2) i1 (by simp only [List.length_cons, List.length_nil]; omega) fun u2 J2 m2 j2 i2 => ?_
        wtm_at "w"
        have hpo : Pos [1 + x % (2 * fm ws)] := Pos.one (by omega)
        refine c_first_gap (sq_h i2) (hp.append hpo) (by rw [List.length_append]; simp only [List.length_cons, List.length_nil]; omega) fun J3 j3 => ?_
        have t1 := fm_app_left hp hpo
        have t2 : x % (2 * fm ws) < fm ws → fm ws + (1 + x % (2 * fm ws)) ≤ fm (ws ++ [1 + x % (2 * fm ws)]) := fun h => fm_put hp (by omega) (by omega)
        wtm_at "w"
        refine v_iff (decide_eq_false (by omega)) ?_
        wtm_at "w"
        refine v_and (d := decide (x % (2 * fm ws) < fm ws)) (fun _ q hq => ?_) (fun J4 j4 => ?_)
        · wtm_at "w"
          refine v_I (mulx_ok (a := 2) (b := 210) (by decide) hg.fm_lt (by decide)) ?_
          wtm_at "w"
          exact hq _ (Same.refl _)
        · refine v_iff ?_ ?_
          · rw [Bool.and_eq_false_iff, decide_eq_false_iff_not, decide_eq_false_iff_not]
            by_cases c : x % (2 * fm ws) < fm ws
            · have := t2 c
              exact .inl (by omega)
            · exact .inr c
          · wtm_at "w"
            exact ⟨_, _, rfl, s12.trans (((j1.trans j2).trans j3).trans j4)⟩
      · rintro σ' H' ⟨y10, y11, rfl, s12⟩
        have b2 := s12 _ _ a2
        wtm_at "w"
        refine v_newL (n := 1) (by decide) fun u1 J1 m1 j1 i1 => ?_
        wtm_at "w"
        refine v_cat (ns := ws) (ms := [fm ws]) (j1 _ _ b2) i1 (by simp only [List.length_cons, List.length_nil]; omega) fun u2 J2 m2 j2 i2 => ?_
        wtm_at "w"
        refine c_first_gap (sq_h i2) (hp.append (Pos.one hg0)) (by rw [List.length_append]; simp only [List.length_cons, List.length_nil]; omega) fun J3 j3 => ?_
        wtm_at "w"
        refine v_I (mulx_ok (a := 2) (b := 210) (by decide) hg.fm_lt (by decide)) ?_
        have t1 := fm_put hp hg0 (Int.le_refl _)
        wtm_at "w"
        rw [decide_eq_true (show 2 * fm ws ≤ fm (ws ++ [fm ws]) by omega)]
        have jA := (j1.trans j2).trans j3
        refine v_andV (d := true) (fun _ q hq => ?_) (fun J5 j5 => k _)
        wtm_at "w"
        refine v_newL (n := 1) (by decide) fun u4 J4 m4 j4 i4 => ?_
        wtm_at "w"
        refine v_cat (ns := ws) (ms := [fm ws + 1]) (j4 _ _ (jA _ _ b2)) i4 (by simp only [List.length_cons, List.length_nil]; omega) fun u5 J5 m5 j5 i5 => ?_
        wtm_at "w"
        refine c_first_gap (sq_h i5) (hp.append (Pos.one (by omega))) (by rw [List.length_append]; simp only [List.length_cons, List.length_nil]; omega) fun J6 j6 => ?_
        wtm_at "w"
        rw [fm_put_far hp (by omega), decide_eq_true rfl]
        exact hq _ ((j4.trans j5).trans j6)
theorem all_mk {l : PySem.W.OpenLaw} {w : World} {K : PySem.W.Frag} {h : Heap} {mg : Str → Option Value} {fa : Addr}  (X : K.In h) (G : h.Ns mainGlobals mg) (hfa : mg "law" = some (.ref fa))
    {f0 : Addr} {od0 an0 : Option Addr} {sl0 : Array (Option Value)} {oc0 kV0 dc0 pm0 cd0 ct0 : Value}
    {f1 : Addr} {od1 an1 : Option Addr} {sl1 : Array (Option Value)} {oc1 kV1 dc1 pm1 cd1 ct1 : Value}
    {f2 : Addr} {od2 an2 : Option Addr} {sl2 : Array (Option Value)} {oc2 kV2 dc2 pm2 cd2 ct2 : Value}
    {f3 : Addr} {od3 an3 : Option Addr} {sl3 : Array (Option Value)} {oc3 kV3 dc3 pm3 cd3 ct3 : Value}
    {f4 : Addr} {od4 an4 : Option Addr} {sl4 : Array (Option Value)} {oc4 kV4 dc4 pm4 cd4 ct4 : Value}
    {f5 : Addr} {od5 an5 : Option Addr} {sl5 : Array (Option Value)} {oc5 kV5 dc5 pm5 cd5 ct5 : Value}
    {f6 : Addr} {od6 an6 : Option Addr} {sl6 : Array (Option Value)} {oc6 kV6 dc6 pm6 cd6 ct6 : Value}
    {f7 : Addr} {od7 an7 : Option Addr} {sl7 : Array (Option Value)} {oc7 kV7 dc7 pm7 cd7 ct7 : Value}
    {f8 : Addr} {od8 an8 : Option Addr} {sl8 : Array (Option Value)} {oc8 kV8 dc8 pm8 cd8 ct8 : Value}
    (a0 : PySem.W.nsIn K mainGlobals "is_number" = some (some (.ref f0)))
    (l0 : K.lookup f0 = some ⟨oc0, od0, .func (PySem.W.fnOf "is_number" "is_number" (defArgs sIsNumber) (defBody sIsNumber) (defScope sIsNumber) .none kV0 dc0 pm0 an0 cd0 ct0), sl0⟩) (c0 : PySem.W.codeIn K cd0 "is_number" = true) (k0 : PySem.W.keepIn K (.ref f0) = true)
    (a1 : PySem.W.nsIn K mainGlobals "asked_set" = some (some (.ref f1)))
    (l1 : K.lookup f1 = some ⟨oc1, od1, .func (PySem.W.fnOf "asked_set" "asked_set" (defArgs sAskedSet) (defBody sAskedSet) (defScope sAskedSet) .none kV1 dc1 pm1 an1 cd1 ct1), sl1⟩) (c1 : PySem.W.codeIn K cd1 "asked_set" = true) (k1 : PySem.W.keepIn K (.ref f1) = true)
    (a2 : PySem.W.nsIn K mainGlobals "first_missing" = some (some (.ref f2)))
    (l2 : K.lookup f2 = some ⟨oc2, od2, .func (PySem.W.fnOf "first_missing" "first_missing" (defArgs sFirstMissing) (defBody sFirstMissing) (defScope sFirstMissing) .none kV2 dc2 pm2 an2 cd2 ct2), sl2⟩) (c2 : PySem.W.codeIn K cd2 "first_missing" = true) (k2 : PySem.W.keepIn K (.ref f2) = true)
    (a3 : PySem.W.nsIn K mainGlobals "first_gap" = some (some (.ref f3)))
    (l3 : K.lookup f3 = some ⟨oc3, od3, .func (PySem.W.fnOf "first_gap" "first_gap" (defArgs sFirstGap) (defBody sFirstGap) (defScope sFirstGap) .none kV3 dc3 pm3 an3 cd3 ct3), sl3⟩) (c3 : PySem.W.codeIn K cd3 "first_gap" = true) (k3 : PySem.W.keepIn K (.ref f3) = true)
    (a4 : PySem.W.nsIn K mainGlobals "weighing" = some (some (.ref f4)))
    (l4 : K.lookup f4 = some ⟨oc4, od4, .func (PySem.W.fnOf "weighing" "weighing" (defArgs sWeighing) (defBody sWeighing) (defScope sWeighing) .none kV4 dc4 pm4 an4 cd4 ct4), sl4⟩) (c4 : PySem.W.codeIn K cd4 "weighing" = true) (k4 : PySem.W.keepIn K (.ref f4) = true)
    (a5 : PySem.W.nsIn K mainGlobals "_law_set" = some (some (.ref f5)))
    (l5 : K.lookup f5 = some ⟨oc5, od5, .func (PySem.W.fnOf "_law_set" "_law_set" (defArgs sLawSet) (defBody sLawSet) (defScope sLawSet) .none kV5 dc5 pm5 an5 cd5 ct5), sl5⟩) (c5 : PySem.W.codeIn K cd5 "_law_set" = true) (k5 : PySem.W.keepIn K (.ref f5) = true)
    (a6 : PySem.W.nsIn K mainGlobals "_law_gap" = some (some (.ref f6)))
    (l6 : K.lookup f6 = some ⟨oc6, od6, .func (PySem.W.fnOf "_law_gap" "_law_gap" (defArgs sLawGap) (defBody sLawGap) (defScope sLawGap) .none kV6 dc6 pm6 an6 cd6 ct6), sl6⟩) (c6 : PySem.W.codeIn K cd6 "_law_gap" = true) (k6 : PySem.W.keepIn K (.ref f6) = true)
    (a7 : PySem.W.nsIn K mainGlobals "_law_sums" = some (some (.ref f7)))
    (l7 : K.lookup f7 = some ⟨oc7, od7, .func (PySem.W.fnOf "_law_sums" "_law_sums" (defArgs sLawSums) (defBody sLawSums) (defScope sLawSums) .none kV7 dc7 pm7 an7 cd7 ct7), sl7⟩) (c7 : PySem.W.codeIn K cd7 "_law_sums" = true) (k7 : PySem.W.keepIn K (.ref f7) = true)
    (a8 : PySem.W.nsIn K mainGlobals "law" = some (some (.ref f8)))
    (l8 : K.lookup f8 = some ⟨oc8, od8, .func (PySem.W.fnOf "law" "law" (defArgs sLaw) (defBody sLaw) (defScope sLaw) .none kV8 dc8 pm8 an8 cd8 ct8), sl8⟩) (c8 : PySem.W.codeIn K cd8 "law" = true) (k8 : PySem.W.keepIn K (.ref f8) = true)
    (zall : PySem.W.nsIn K mainGlobals "all" = some none)
    (zbool : PySem.W.nsIn K mainGlobals "bool" = some none)
    (zenumerate : PySem.W.nsIn K mainGlobals "enumerate" = some none)
    (zint : PySem.W.nsIn K mainGlobals "int" = some none)
    (zisinstance : PySem.W.nsIn K mainGlobals "isinstance" = some none)
    (zlen : PySem.W.nsIn K mainGlobals "len" = some none)
    (zlist : PySem.W.nsIn K mainGlobals "list" = some none)
    (zrange : PySem.W.nsIn K mainGlobals "range" = some none)
    (zset : PySem.W.nsIn K mainGlobals "set" = some none)
    (zsorted : PySem.W.nsIn K mainGlobals "sorted" = some none)
    (zsum : PySem.W.nsIn K mainGlobals "sum" = some none)
    : ∃ fd : FuncData, (∀ (s : Shared) (v : Value), BindsTo s fd ⟨[v], []⟩ [("_law_script", v)]) ∧ ∀ base : Heap, K.In base → base.Ns mainGlobals mg → FnOk l.prog w K mg base CX0 4 fa fd ["_law_script"] (sp_law K) := by
  have e := hfa.symm.trans (PySem.W.mg_of X G a8)
  cases e
  have T : Tx K mg (⟨0, 0, 0, 0, 0, 0, 0, 0⟩ : Ca) := {
    z_all := PySem.W.mg_none_of X G zall,
    z_bool := PySem.W.mg_none_of X G zbool,
    z_enumerate := PySem.W.mg_none_of X G zenumerate,
    z_int := PySem.W.mg_none_of X G zint,
    z_isinstance := PySem.W.mg_none_of X G zisinstance,
    z_len := PySem.W.mg_none_of X G zlen,
    z_list := PySem.W.mg_none_of X G zlist,
    z_range := PySem.W.mg_none_of X G zrange,
    z_set := PySem.W.mg_none_of X G zset,
    z_sorted := PySem.W.mg_none_of X G zsorted,
    z_sum := PySem.W.mg_none_of X G zsum }
  have F0 := fun_mk (st := sIsNumber) l0 c0 k0
  have b0 := F0.binds (ps := ["thing", "least"]) fun _ _ _ _ _ _ us hl => match us, hl with | [_, _], _ => rfl
  have A0 : At K mg "is_number" sIsNumber ["thing", "least"] f0 _ := ⟨PySem.W.mg_of X G a0, F0, b0⟩
  have F1 := fun_mk (st := sAskedSet) l1 c1 k1
  have b1 := F1.binds (ps := ["weights"]) fun _ _ _ _ _ _ us hl => match us, hl with | [_], _ => rfl
  have A1 : At K mg "asked_set" sAskedSet ["weights"] f1 _ := ⟨PySem.W.mg_of X G a1, F1, b1⟩
  have F2 := fun_mk (st := sFirstMissing) l2 c2 k2
  have b2 := F2.binds (ps := ["weights"]) fun _ _ _ _ _ _ us hl => match us, hl with | [_], _ => rfl
  have A2 : At K mg "first_missing" sFirstMissing ["weights"] f2 _ := ⟨PySem.W.mg_of X G a2, F2, b2⟩
  have F3 := fun_mk (st := sFirstGap) l3 c3 k3
  have b3 := F3.binds (ps := ["weights"]) fun _ _ _ _ _ _ us hl => match us, hl with | [_], _ => rfl
  have A3 : At K mg "first_gap" sFirstGap ["weights"] f3 _ := ⟨PySem.W.mg_of X G a3, F3, b3⟩
  have F4 := fun_mk (st := sWeighing) l4 c4 k4
  have b4 := F4.binds (ps := ["weights", "number"]) fun _ _ _ _ _ _ us hl => match us, hl with | [_, _], _ => rfl
  have A4 : At K mg "weighing" sWeighing ["weights", "number"] f4 _ := ⟨PySem.W.mg_of X G a4, F4, b4⟩
  have F5 := fun_mk (st := sLawSet) l5 c5 k5
  have b5 := F5.binds (ps := ["_law_script"]) fun _ _ _ _ _ _ us hl => match us, hl with | [_], _ => rfl
  have A5 : At K mg "_law_set" sLawSet ["_law_script"] f5 _ := ⟨PySem.W.mg_of X G a5, F5, b5⟩
  have F6 := fun_mk (st := sLawGap) l6 c6 k6
  have b6 := F6.binds (ps := ["_law_weights"]) fun _ _ _ _ _ _ us hl => match us, hl with | [_], _ => rfl
  have A6 : At K mg "_law_gap" sLawGap ["_law_weights"] f6 _ := ⟨PySem.W.mg_of X G a6, F6, b6⟩
  have F7 := fun_mk (st := sLawSums) l7 c7 k7
  have b7 := F7.binds (ps := ["_law_weights"]) fun _ _ _ _ _ _ us hl => match us, hl with | [_], _ => rfl
  have A7 : At K mg "_law_sums" sLawSums ["_law_weights"] f7 _ := ⟨PySem.W.mg_of X G a7, F7, b7⟩
  have F8 := fun_mk (st := sLaw) l8 c8 k8
  have b8 := F8.binds (ps := ["_law_script"]) fun _ _ _ _ _ _ us hl => match us, hl with | [_], _ => rfl
  have A8 : At K mg "law" sLaw ["_law_script"] fa _ := ⟨PySem.W.mg_of X G a8, F8, b8⟩
  refine ⟨PySem.W.fnOf "law" "law" (defArgs sLaw) (defBody sLaw) (defScope sLaw) .none kV8 dc8 pm8 an8 cd8 ct8, fun s v => .of_eq rfl, fun base _ _ => ?_⟩
  have G_is_number := ok_is_number (P := l.prog) (w := w) (base := base) (c := (⟨0, 0, 0, 0, 0, 0, 0, 0⟩ : Ca)) A0 T  
  have G_asked_set := ok_asked_set (P := l.prog) (w := w) (base := base) (c := (⟨0, 0, 0, 0, 0, 0, 0, 0⟩ : Ca)) A1 T G_is_number 
  have G_first_missing := ok_first_missing (P := l.prog) (w := w) (base := base) (c := (⟨0, 0, 0, 0, 0, 0, 0, 0⟩ : Ca)) A2 T  
  have G_first_gap := ok_first_gap (P := l.prog) (w := w) (base := base) (c := (⟨0, 0, 0, 0, 0, 0, 0, 0⟩ : Ca)) A3 T G_asked_set G_first_missing 
  have G_weighing := ok_weighing (P := l.prog) (w := w) (base := base) (c := (⟨0, 0, 0, 0, 0, 0, 0, 0⟩ : Ca)) A4 T G_is_number G_asked_set G_first_missing 
  have G_law_set := ok_law_set (P := l.prog) (w := w) (base := base) (c := (⟨0, 0, 0, 0, 0, 0, 0, 0⟩ : Ca)) A5 T  
  have G_law_sums := ok_law_sums (P := l.prog) (w := w) (base := base) (c := (⟨0, 0, 0, 0, 0, 0, 0, 0⟩ : Ca)) A7 T  
  have G_law := ok_law (P := l.prog) (w := w) (base := base) (c := (⟨0, 0, 0, 0, 0, 0, 0, 0⟩ : Ca)) A8 T G_first_gap G_weighing G_law_set G_law_sums 
  exact G_law.ok
end
end Wt
open PySem PySem.W PyProof.Rows
set_option maxRecDepth 100000 in
set_option maxHeartbeats 0 in
theorem PySem.Challenge.cw_weightset_k04_changes_holds : PySem.Challenge.rw_weightset_k04_changes.Holds := by
  w_on; o_law; k_head; (case hw => w_witness2)
  k_fill
  refine L2.walk_ofB (l := PySem.Challenge.rw_weightset_k04_changes) (n := 63) (k := 4) (x := "_law_script") (CX := fun w => L2.CX0) (sp := fun w => Wt.sp_law _) rfl (by decide) rfl ⟨rfl, by decide, by decide⟩ (fun w h Y => PySem.W.kIn_of Y) ?F (fun _ _ a ns hl hb _ hS => Wt.law_ask a ns hl hb hS) (fun _ _ _ _ _ h => h)
  case F =>
    intro w mg fa h KX G hmg
    refine' Wt.all_mk KX G hmg ?a0 ?l0 ?c0 ?k0 ?a1 ?l1 ?c1 ?k1 ?a2 ?l2 ?c2 ?k2 ?a3 ?l3 ?c3 ?k3 ?a4 ?l4 ?c4 ?k4 ?a5 ?l5 ?c5 ?k5 ?a6 ?l6 ?c6 ?k6 ?a7 ?l7 ?c7 ?k7 ?a8 ?l8 ?c8 ?k8 ?zall ?zbool ?zenumerate ?zint ?zisinstance ?zlen ?zlist ?zrange ?zset ?zsorted ?zsum
    (case a0 => k_is)
    (case l0 => k_is)
    (case c0 => k_is)
    (case k0 => k_is)
    (case a1 => k_is)
    (case l1 => k_is)
    (case c1 => k_is)
    (case k1 => k_is)
    (case a2 => k_is)
    (case l2 => k_is)
    (case c2 => k_is)
    (case k2 => k_is)
    (case a3 => k_is)
    (case l3 => k_is)
    (case c3 => k_is)
    (case k3 => k_is)
    (case a4 => k_is)
    (case l4 => k_is)
    (case c4 => k_is)
    (case k4 => k_is)
    (case a5 => k_is)
    (case l5 => k_is)
    (case c5 => k_is)
    (case k5 => k_is)
    (case a6 => k_is)
    (case l6 => k_is)
    (case c6 => k_is)
    (case k6 => k_is)
    (case a7 => k_is)
    (case l7 => k_is)
    (case c7 => k_is)
    (case k7 => k_is)
    (case a8 => k_is)
    (case l8 => k_is)
    (case c8 => k_is)
    (case k8 => k_is)
    (case zall => k_is)
    (case zbool => k_is)
    (case zenumerate => k_is)
    (case zint => k_is)
    (case zisinstance => k_is)
    (case zlen => k_is)
    (case zlist => k_is)
    (case zrange => k_is)
    (case zset => k_is)
    (case zsorted => k_is)
    (case zsum => k_is)
