import PyProof.Rows.All
import Wide.All
import OpenK.AllK
import Wide.FinOn
import HandS.ForMost
import HandS.ForExc
import HandS.EndBits
import HandS.IsInst
import HandS.Style
import HandS.SortInts
import HandS.SortRule
import HandS.WideBits
import HandS.Zip
import HandS.SetFor
import HandS.Strs
import HandS.ExcIs
import HandS.Evl
import PySem.Challenge.RW_weightset_k06_refused
set_option Elab.async false
set_option linter.all false
set_option maxRecDepth 100000
set_option maxHeartbeats 4000000
namespace Wt
/-! plain mathematics: sorting, the first gap -/
def ins (a : Int) : List Int → List Int
  | [] => [a]
  | b :: r => if a ≤ b then a :: b :: r else b :: ins a r
def srt : List Int → List Int
  | [] => []
  | a :: r => ins a (srt r)
theorem ins_perm (a : Int) : ∀ l : List Int, (ins a l).Perm (a :: l)
  | [] => List.Perm.refl _
  | b :: r => by
    unfold ins
    split
    · exact List.Perm.refl _
    · exact ((ins_perm a r).cons b).trans (List.Perm.swap a b r)
theorem srt_perm : ∀ l : List Int, (srt l).Perm l
  | [] => List.Perm.refl _
  | a :: r => (ins_perm a (srt r)).trans ((srt_perm r).cons a)
theorem ins_pw (a : Int) : ∀ {l : List Int}, l.Pairwise (· ≤ ·) → (ins a l).Pairwise (· ≤ ·)
  | [], _ => List.pairwise_cons.mpr ⟨(fun _ h => nomatch h), List.Pairwise.nil⟩
  | b :: r, h => by
    have ⟨h1, h2⟩ := List.pairwise_cons.mp h
    unfold ins
    split
    · rename_i hab
      refine List.pairwise_cons.mpr ⟨fun x hx => ?_, h⟩
      rcases List.mem_cons.mp hx with e | e
      · rw [e]; exact hab
      · exact Int.le_trans hab (h1 x e)
    · rename_i hab
      refine List.pairwise_cons.mpr ⟨fun x hx => ?_, ins_pw a h2⟩
      rcases List.mem_cons.mp ((ins_perm a r).mem_iff.mp hx) with e | e
      · rw [e]; omega
      · exact h1 x e
theorem srt_pw : ∀ l : List Int, (srt l).Pairwise (· ≤ ·)
  | [] => List.Pairwise.nil
  | a :: r => ins_pw a (srt_pw r)
theorem srt_uniq {l m : List Int} (p : l.Perm m) (s : l.Pairwise (· ≤ ·)) : l = srt m :=
  List.Perm.eq_of_pairwise (le := (· ≤ ·)) (fun a b _ _ h1 h2 => Int.le_antisymm h1 h2) s (srt_pw m) (p.trans (srt_perm m).symm)
theorem srt_congr {l m : List Int} (p : l.Perm m) : srt l = srt m := srt_uniq ((srt_perm l).trans p) (srt_pw l)
theorem srt_length (l : List Int) : (srt l).length = l.length := (srt_perm l).length_eq
theorem perm_sum {l m : List Int} (p : l.Perm m) : l.sum = m.sum := by
  induction p with
  | nil => rfl
  | cons x _ ih => simp only [List.sum_cons, ih]
  | swap x y l => simp only [List.sum_cons]; omega
  | trans _ _ ih1 ih2 => exact ih1.trans ih2
def Pos (l : List Int) : Prop := ∀ w ∈ l, 1 ≤ w
theorem Pos.perm {l m : List Int} (h : Pos l) (p : m.Perm l) : Pos m := fun w hw => h w (p.mem_iff.mp hw)
theorem Pos.cons {a : Int} {l : List Int} (h : Pos (a :: l)) : 1 ≤ a ∧ Pos l := ⟨h a List.mem_cons_self, fun w hw => h w (List.mem_cons_of_mem _ hw)⟩
theorem Pos.append {l m : List Int} (h : Pos l) (k : Pos m) : Pos (l ++ m) := fun w hw => (List.mem_append.mp hw).elim (h w) (k w)
theorem Pos.one {a : Int} (h : 1 ≤ a) : Pos [a] := fun w hw => by rw [List.mem_singleton.mp hw]; exact h
theorem Pos.nil : Pos [] := fun _ h => nomatch h
theorem Pos.sub {l m : List Int} (h : Pos l) (k : ∀ x ∈ m, x ∈ l) : Pos m := fun w hw => h w (k w hw)
theorem pos_sum {l : List Int} (h : Pos l) : 0 ≤ l.sum := by
  induction l with
  | nil => exact Int.le_refl _
  | cons a r ih =>
    have ⟨h1, h2⟩ := h.cons
    have := ih h2
    rw [List.sum_cons]; omega
/-- all weights up to x together -/
def sle (x : Int) (l : List Int) : Int := (l.filter fun w => decide (w ≤ x)).sum
def slt (x : Int) (l : List Int) : Int := (l.filter fun w => decide (w < x)).sum
theorem sle_nil (x : Int) : sle x [] = 0 := rfl
theorem sle_cons (x a : Int) (l : List Int) : sle x (a :: l) = (if a ≤ x then a else 0) + sle x l := by
  unfold sle
  by_cases h : a ≤ x
  · rw [List.filter_cons_of_pos (by simpa using h), if_pos h, List.sum_cons]
  · rw [List.filter_cons_of_neg (by simpa using h), if_neg h]; omega
theorem slt_cons (x a : Int) (l : List Int) : slt x (a :: l) = (if a < x then a else 0) + slt x l := by
  unfold slt
  by_cases h : a < x
  · rw [List.filter_cons_of_pos (by simpa using h), if_pos h, List.sum_cons]
  · rw [List.filter_cons_of_neg (by simpa using h), if_neg h]; omega
theorem sle_append (x : Int) (l m : List Int) : sle x (l ++ m) = sle x l + sle x m := by
  unfold sle
  rw [List.filter_append, List.sum_append_int]
theorem sle_perm (x : Int) {l m : List Int} (p : l.Perm m) : sle x l = sle x m := perm_sum (p.filter _)
theorem slt_perm (x : Int) {l m : List Int} (p : l.Perm m) : slt x l = slt x m := perm_sum (p.filter _)
theorem sle_nonneg {l : List Int} (h : Pos l) (x : Int) : 0 ≤ sle x l := pos_sum (h.sub fun _ hw => (List.mem_filter.mp hw).1)
theorem sle_one (x a : Int) : sle x [a] = if a ≤ x then a else 0 := by rw [sle_cons, sle_nil]; omega
theorem sle_mem {l : List Int} (h : Pos l) {x a : Int} (ha : a ∈ l) (hx : a ≤ x) : a ≤ sle x l := by
  induction l with
  | nil => cases ha
  | cons b r ih =>
    have ⟨h1, h2⟩ := h.cons
    have hn := sle_nonneg h2 x
    rw [sle_cons]
    rcases List.mem_cons.mp ha with e | e
    · subst e; rw [if_pos hx]; omega
    · have := ih h2 e
      split <;> omega
theorem sle_mono {l : List Int} (h : Pos l) {x y : Int} (hxy : x ≤ y) : sle x l ≤ sle y l := by
  induction l with
  | nil => exact Int.le_refl _
  | cons b r ih =>
    have ⟨h1, h2⟩ := h.cons
    have := ih h2
    rw [sle_cons, sle_cons]
    split <;> split <;> omega
theorem slt_sle {l : List Int} {x : Int} (h : x ∉ l) : slt x l = sle x l := by
  induction l with
  | nil => rfl
  | cons b r ih =>
    have hb : x ≠ b := fun e => h (by rw [e]; exact List.mem_cons_self)
    have hr : x ∉ r := fun e => h (List.mem_cons_of_mem _ e)
    rw [sle_cons, slt_cons, ih hr]
    by_cases q : b ≤ x
    · rw [if_pos q, if_pos (by omega)]
    · rw [if_neg q, if_neg (by omega)]
/-! the two readings of the first gap -/
def fstep (f w : Int) : Int := if w ≤ f then f + w else f
def fm (ns : List Int) : Int := (srt ns).foldl fstep 1
def gp : Int → List Int → Int
  | W, [] => W + 1
  | W, w :: r => if w > W + 1 then W + 1 else gp (W + w) r
def lg (ns : List Int) : Int := gp 0 (srt ns)
theorem fold_stay : ∀ {l : List Int} {f : Int}, (∀ x ∈ l, f < x) → l.foldl fstep f = f
  | [], _, _ => rfl
  | a :: r, f, h => by
    have ha := h a List.mem_cons_self
    show r.foldl fstep (fstep f a) = f
    rw [show fstep f a = f from if_neg (by omega)]
    exact fold_stay fun x hx => h x (List.mem_cons_of_mem _ hx)
theorem fold_gp : ∀ {l : List Int} {W : Int}, l.Pairwise (· ≤ ·) → l.foldl fstep (W + 1) = gp W l
  | [], _, _ => rfl
  | a :: r, W, h => by
    have ⟨h1, h2⟩ := List.pairwise_cons.mp h
    show r.foldl fstep (fstep (W + 1) a) = if a > W + 1 then W + 1 else gp (W + a) r
    by_cases q : a > W + 1
    · rw [if_pos q, show fstep (W + 1) a = W + 1 from if_neg (by omega)]
      exact fold_stay fun x hx => by have := h1 x hx; omega
    · rw [if_neg q, show fstep (W + 1) a = W + a + 1 from (if_pos (by omega)).trans (by omega)]
      exact fold_gp h2
theorem fm_lg (ns : List Int) : fm ns = lg ns := fold_gp (W := 0) (srt_pw ns)
theorem fm_perm {l m : List Int} (p : l.Perm m) : fm l = fm m := by unfold fm; rw [srt_congr p]
theorem gp_ge : ∀ {l : List Int} {W : Int}, Pos l → W + 1 ≤ gp W l
  | [], _, _ => Int.le_refl _
  | a :: r, W, h => by
    have ⟨h1, h2⟩ := h.cons
    show W + 1 ≤ if a > W + 1 then W + 1 else gp (W + a) r
    split
    · exact Int.le_refl _
    · have := gp_ge (W := W + a) h2; omega
theorem gp_sle : ∀ {l : List Int} {W : Int}, Pos l → l.Pairwise (· ≤ ·) → 0 ≤ W → sle (gp W l) l + W = gp W l - 1
  | [], W, _, _, _ => by show (0 : Int) + W = W + 1 - 1; omega
  | a :: r, W, h, s, hW => by
    have ⟨h1, h2⟩ := h.cons
    have ⟨s1, s2⟩ := List.pairwise_cons.mp s
    have hg : gp W (a :: r) = if a > W + 1 then W + 1 else gp (W + a) r := rfl
    by_cases q : a > W + 1
    · rw [if_pos q] at hg
      rw [hg]
      have : sle (W + 1) (a :: r) = 0 := by
        unfold sle
        rw [List.filter_eq_nil_iff.mpr]
        · rfl
        · intro x hx
          rcases List.mem_cons.mp hx with e | e
          · subst e; simp; omega
          · have := s1 x e; simp; omega
      omega
    · rw [if_neg q] at hg
      rw [hg, sle_cons]
      have ih := gp_sle (W := W + a) h2 s2 (by omega)
      have hge := gp_ge (W := W + a) h2
      rw [if_pos (by omega)]
      omega
theorem gp_below : ∀ {l : List Int} {W x : Int}, Pos l → W + 1 ≤ x → x < gp W l → x ≤ sle x l + W
  | [], W, x, _, h1, h2 => by
    have h2' : x < W + 1 := h2
    omega
  | a :: r, W, x, h, h1, h2 => by
    have ⟨p1, p2⟩ := h.cons
    have hg : gp W (a :: r) = if a > W + 1 then W + 1 else gp (W + a) r := rfl
    rw [sle_cons]
    by_cases q : a > W + 1
    · rw [hg, if_pos q] at h2; omega
    · rw [hg, if_neg q] at h2
      have hn := sle_nonneg p2 x
      by_cases c : W + a + 1 ≤ x
      · have := gp_below (W := W + a) p2 c h2
        rw [if_pos (by omega)]; omega
      · rw [if_pos (by omega)]; omega
section
variable {ws : List Int}
theorem fm_pos (h : Pos ws) : 1 ≤ fm ws := by
  rw [fm_lg]; have := gp_ge (W := 0) (h.perm (srt_perm ws)); unfold lg; omega
theorem fm_sle (h : Pos ws) : sle (fm ws) ws = fm ws - 1 := by
  rw [fm_lg]
  have := gp_sle (W := 0) (h.perm (srt_perm ws)) (srt_pw ws) (by omega)
  rw [sle_perm _ (srt_perm ws)] at this
  unfold lg; omega
theorem fm_below (h : Pos ws) {x : Int} (h1 : 1 ≤ x) (h2 : x < fm ws) : x ≤ sle x ws := by
  rw [fm_lg] at h2
  have := gp_below (W := 0) (h.perm (srt_perm ws)) (by omega) h2
  rw [sle_perm _ (srt_perm ws)] at this
  omega
theorem fm_le (h : Pos ws) {x : Int} (h1 : 1 ≤ x) (h2 : sle x ws < x) : fm ws ≤ x := by
  by_cases c : fm ws ≤ x
  · exact c
  · have := fm_below h h1 (by omega); omega
theorem fm_not_mem (h : Pos ws) : fm ws ∉ ws := fun hm => by
  have h1 := fm_sle h
  have h2 := sle_mem h hm (Int.le_refl _)
  omega
theorem fm_slt (h : Pos ws) : slt (fm ws) ws = fm ws - 1 := by rw [slt_sle (fm_not_mem h), fm_sle h]
/-- fewer weights, no greater gap -/
theorem fm_mono {a b : List Int} (ha : Pos a) (hb : Pos b) (h : ∀ x, sle x a ≤ sle x b) : fm a ≤ fm b := by
  refine fm_le ha (fm_pos hb) ?_
  have := h (fm b)
  have := fm_sle hb
  omega
theorem fm_app {a b : List Int} (ha : Pos a) (hb : Pos b) : fm a + fm b - 1 ≤ fm (a ++ b) := by
  have hab := ha.append hb
  have e := fm_sle hab
  rw [sle_append] at e
  have px := fm_pos hab
  have g1 := sle_nonneg ha (fm (a ++ b))
  have g2 := sle_nonneg hb (fm (a ++ b))
  have la : fm a ≤ fm (a ++ b) := by
    refine fm_le ha px ?_
    omega
  have lb : fm b ≤ fm (a ++ b) := by
    refine fm_le hb px ?_
    omega
  have m1 := sle_mono ha la
  have m2 := sle_mono hb lb
  have e1 := fm_sle ha
  have e2 := fm_sle hb
  omega
theorem fm_app_left {a b : List Int} (ha : Pos a) (hb : Pos b) : fm a ≤ fm (a ++ b) := by
  have := fm_app ha hb
  have := fm_pos hb
  omega
theorem fm_app_right {a b : List Int} (ha : Pos a) (hb : Pos b) : fm b ≤ fm (a ++ b) := by
  have := fm_app ha hb
  have := fm_pos ha
  omega
/-- a weight no heavier than the gap -/
theorem fm_put {a : List Int} {w : Int} (ha : Pos a) (hw : 1 ≤ w) (h : w ≤ fm a) : fm a + w ≤ fm (a ++ [w]) := by
  have hb := Pos.one hw
  have hab := ha.append hb
  have e := fm_sle hab
  have l := fm_app_left ha hb
  rw [sle_append, sle_one, if_pos (by omega)] at e
  have m1 := sle_mono ha l
  have e1 := fm_sle ha
  omega
theorem fm_put_far {a : List Int} {w : Int} (ha : Pos a) (h : fm a < w) : fm (a ++ [w]) = fm a := by
  have p := fm_pos ha
  have hb : Pos [w] := Pos.one (by omega)
  have hab := ha.append hb
  refine Int.le_antisymm (fm_le hab p ?_) (fm_app_left ha hb)
  rw [sle_append, sle_one, if_neg (by omega), fm_sle ha]
  omega
end
end Wt
namespace Wt
/-! greedy weighing -/
def lexLe (a b : Int × Int) : Prop := a.1 < b.1 ∨ (a.1 = b.1 ∧ a.2 ≤ b.2)
instance (a b : Int × Int) : Decidable (lexLe a b) := inferInstanceAs (Decidable (_ ∨ _))
def insP (a : Int × Int) : List (Int × Int) → List (Int × Int)
  | [] => [a]
  | b :: r => if lexLe a b then a :: b :: r else b :: insP a r
def srtP : List (Int × Int) → List (Int × Int)
  | [] => []
  | a :: r => insP a (srtP r)
theorem insP_perm (a : Int × Int) : ∀ l, (insP a l).Perm (a :: l)
  | [] => List.Perm.refl _
  | b :: r => by
    unfold insP
    split
    · exact List.Perm.refl _
    · exact ((insP_perm a r).cons b).trans (List.Perm.swap a b r)
theorem srtP_perm : ∀ l, (srtP l).Perm l
  | [] => List.Perm.refl _
  | a :: r => (insP_perm a (srtP r)).trans ((srtP_perm r).cons a)
theorem lexLe_trans {a b c : Int × Int} (h : lexLe a b) (k : lexLe b c) : lexLe a c := by
  unfold lexLe at *; omega
theorem lexLe_total {a b : Int × Int} (h : ¬ lexLe a b) : lexLe b a := by
  unfold lexLe at *; omega
theorem lexLe_antisymm {a b : Int × Int} (h : lexLe a b) (k : lexLe b a) : a = b := by
  unfold lexLe at *
  refine Prod.ext ?_ ?_ <;> omega
theorem insP_pw (a : Int × Int) : ∀ {l : List (Int × Int)}, l.Pairwise lexLe → (insP a l).Pairwise lexLe
  | [], _ => List.pairwise_cons.mpr ⟨(fun _ h => nomatch h), List.Pairwise.nil⟩
  | b :: r, h => by
    have ⟨h1, h2⟩ := List.pairwise_cons.mp h
    unfold insP
    split
    · rename_i hab
      refine List.pairwise_cons.mpr ⟨fun x hx => ?_, h⟩
      rcases List.mem_cons.mp hx with e | e
      · rw [e]; exact hab
      · exact lexLe_trans hab (h1 x e)
    · rename_i hab
      refine List.pairwise_cons.mpr ⟨fun x hx => ?_, insP_pw a h2⟩
      rcases List.mem_cons.mp ((insP_perm a r).mem_iff.mp hx) with e | e
      · rw [e]; exact lexLe_total hab
      · exact h1 x e
theorem srtP_pw : ∀ l, (srtP l).Pairwise lexLe
  | [] => List.Pairwise.nil
  | a :: r => insP_pw a (srtP_pw r)
theorem srtP_uniq {l m : List (Int × Int)} (p : l.Perm m) (s : l.Pairwise lexLe) : l = srtP m :=
  List.Perm.eq_of_pairwise (le := lexLe) (fun a b _ _ h1 h2 => lexLe_antisymm h1 h2) s (srtP_pw m) (p.trans (srtP_perm m).symm)
/-- the picked ones -/
def gr : Int → List (Int × Int) → List (Int × Int)
  | _, [] => []
  | left, (w, p) :: r => if w ≤ left then (w, p) :: gr (left - w) r else gr left r
theorem gr_sub : ∀ (l : List (Int × Int)) (left : Int), (gr left l).Sublist l
  | [], _ => List.Sublist.refl _
  | (w, p) :: r, left => by
    unfold gr
    split
    · exact (gr_sub r _).cons_cons _
    · exact (gr_sub r _).cons _
def Fr (l : List (Int × Int)) : Int := (l.reverse.map (·.1)).foldl fstep 1
theorem Fr_cons (x : Int × Int) (l : List (Int × Int)) : Fr (x :: l) = fstep (Fr l) x.1 := by
  unfold Fr
  rw [List.reverse_cons, List.map_append, List.foldl_append]
  rfl
theorem gr_sum : ∀ (l : List (Int × Int)) (left : Int), 0 ≤ left → left < Fr l → ((gr left l).map (·.1)).sum = left
  | [], left, h0, h1 => by
    have e : Fr [] = 1 := rfl
    show (0 : Int) = left
    omega
  | (w, p) :: r, left, h0, h1 => by
    rw [Fr_cons] at h1
    have h1' : left < if w ≤ Fr r then Fr r + w else Fr r := h1
    unfold gr
    by_cases c : w ≤ left
    · rw [if_pos c, List.map_cons, List.sum_cons]
      have : left - w < Fr r := by
        split at h1' <;> omega
      have := gr_sum r (left - w) (by omega) this
      show w + _ = left
      omega
    · rw [if_neg c]
      refine gr_sum r left h0 ?_
      split at h1' <;> omega
/-- the pairs of weights and places -/
def prs (ws : List Int) : List (Int × Int) := ws.zipIdx.map fun x => (x.1, (x.2 : Int))
theorem prs_fst (ws : List Int) : (prs ws).map (·.1) = ws := by
  unfold prs
  rw [List.map_map]
  exact List.zipIdx_map_fst 0 ws
theorem prs_length (ws : List Int) : (prs ws).length = ws.length := by
  unfold prs; rw [List.length_map, List.length_zipIdx]
theorem prs_get {ws : List Int} {i : Nat} {w : Int} (h : ws[i]? = some w) : (prs ws)[i]? = some (w, (i : Int)) := by
  unfold prs
  rw [List.getElem?_map, List.getElem?_zipIdx, h]
  simp
theorem prs_mem {ws : List Int} {x : Int × Int} (h : x ∈ prs ws) : ∃ i : Nat, x.2 = (i : Int) ∧ ws[i]? = some x.1 := by
  unfold prs at h
  obtain ⟨y, hy, e⟩ := List.mem_map.mp h
  refine ⟨y.2, by rw [← e], ?_⟩
  have := List.mk_mem_zipIdx_iff_getElem?.mp (show (y.1, y.2) ∈ ws.zipIdx from hy)
  rw [this, ← e]
theorem prs_places (ws : List Int) : (prs ws).map (·.2) = (List.range ws.length).map fun (i : Nat) => (i : Int) := by
  unfold prs
  rw [List.map_map]
  have : ((fun x : Int × Int => x.2) ∘ fun x : Int × Nat => (x.1, (x.2 : Int))) = (fun i : Nat => (i : Int)) ∘ (fun x : Int × Nat => x.2) := rfl
  rw [this, ← List.map_map, List.zipIdx_map_snd, List.range_eq_range']
theorem prs_nodup (ws : List Int) : ((prs ws).map (·.2)).Nodup := by
  rw [prs_places]
  refine List.Pairwise.map _ ?_ (List.nodup_range (n := ws.length))
  intro a b h e
  exact h (by omega)
def wg (ws : List Int) (n : Int) : List Int := srt ((gr n (srtP (prs ws)).reverse).map (·.2))
theorem srtP_fst (ws : List Int) : (srtP (prs ws)).map (·.1) = srt ws := by
  refine srt_uniq ?_ ?_
  · have := (srtP_perm (prs ws)).map (·.1)
    rw [prs_fst] at this
    exact this
  · refine List.Pairwise.map _ ?_ (srtP_pw (prs ws))
    intro a b h
    unfold lexLe at h
    omega
theorem Fr_fm (ws : List Int) : Fr (srtP (prs ws)).reverse = fm ws := by
  unfold Fr
  rw [List.reverse_reverse, srtP_fst]
  rfl
theorem wg_mem {ws : List Int} {n p : Int} (h : p ∈ wg ws n) : ∃ i : Nat, p = (i : Int) ∧ i < ws.length := by
  have h1 := (srt_perm _).mem_iff.mp h
  obtain ⟨x, hx, e⟩ := List.mem_map.mp h1
  have h2 := (srtP_perm _).mem_iff.mp (List.mem_reverse.mp ((gr_sub _ _).subset hx))
  obtain ⟨i, e2, e3⟩ := prs_mem h2
  exact ⟨i, by omega, (List.getElem?_eq_some_iff.mp e3).1⟩
theorem wg_nodup (ws : List Int) (n : Int) : (wg ws n).Nodup := by
  refine (srt_perm _).nodup_iff.mpr ?_
  have h1 : ((srtP (prs ws)).map (·.2)).Nodup := ((srtP_perm (prs ws)).map (·.2)).nodup_iff.mpr (prs_nodup ws)
  have h2 : (((srtP (prs ws)).reverse).map (·.2)).Nodup := by
    rw [List.map_reverse]
    exact (List.reverse_perm _).nodup_iff.mpr h1
  exact h2.sublist ((gr_sub _ _).map _)
theorem wg_pw (ws : List Int) (n : Int) : (wg ws n).Pairwise (· ≤ ·) := srt_pw _
theorem wg_lt (ws : List Int) (n : Int) : (wg ws n).Pairwise (· < ·) := by
  have h1 := wg_pw ws n
  have h2 : (wg ws n).Pairwise (· ≠ ·) := wg_nodup ws n
  exact (List.Pairwise.and h1 h2).imp fun ⟨a, b⟩ => by omega
theorem wg_length (ws : List Int) (n : Int) : (wg ws n).length ≤ ws.length := by
  unfold wg
  rw [srt_length, List.length_map]
  refine Nat.le_trans (gr_sub _ _).length_le ?_
  rw [List.length_reverse, (srtP_perm _).length_eq, prs_length]
  exact Nat.le_refl _
theorem wg_sum {ws : List Int} {n : Int} (h0 : 0 ≤ n) (h1 : n < fm ws) : ((wg ws n).map fun p => ws.getD p.toNat 0).sum = n := by
  have e1 : ((wg ws n).map fun p => ws.getD p.toNat 0).sum = (((gr n (srtP (prs ws)).reverse).map (·.2)).map fun p => ws.getD p.toNat 0).sum := perm_sum ((srt_perm _).map _)
  rw [e1, List.map_map]
  have e2 : ∀ x ∈ gr n (srtP (prs ws)).reverse, ((fun p : Int => ws.getD p.toNat 0) ∘ (fun x : Int × Int => x.2)) x = x.1 := by
    intro x hx
    have h2 := (srtP_perm _).mem_iff.mp (List.mem_reverse.mp ((gr_sub _ _).subset hx))
    obtain ⟨i, e2, e3⟩ := prs_mem h2
    show ws.getD x.2.toNat 0 = x.1
    rw [e2, Int.toNat_natCast, List.getD_eq_getElem?_getD, e3]
    rfl
  rw [List.map_congr_left e2]
  exact gr_sum _ n h0 (by rw [Fr_fm]; exact h1)
theorem gr_length_le (l : List (Int × Int)) (n : Int) : (gr n l).length ≤ l.length := (gr_sub l n).length_le
/-! taking one out -/
theorem sle_cut (ws : List Int) (i : Nat) (h : Pos ws) (x : Int) : sle x (ws.take i ++ ws.drop (i + 1)) ≤ sle x ws := by
  have e : ws = ws.take i ++ ws.drop i := (List.take_append_drop i ws).symm
  have e2 : sle x ws = sle x (ws.take i) + sle x (ws.drop i) := by
    have := congrArg (sle x) e
    rw [sle_append] at this
    exact this
  rw [sle_append, e2]
  have hd : Pos (ws.drop i) := h.sub fun y hy => List.mem_of_mem_drop hy
  cases hc : ws.drop i with
  | nil =>
    have : ws.drop (i + 1) = [] := by
      rw [List.drop_eq_nil_iff] at *
      omega
    rw [this]
    exact Int.le_refl _
  | cons a r =>
    have : ws.drop (i + 1) = r := by
      rw [← List.tail_drop, hc]
      rfl
    rw [this, sle_cons]
    rw [hc] at hd
    have := hd.cons.1
    split <;> omega
theorem cut_pos {ws : List Int} (i : Nat) (h : Pos ws) : Pos (ws.take i ++ ws.drop (i + 1)) :=
  (h.sub fun _ hy => List.mem_of_mem_take hy).append (h.sub fun _ hy => List.mem_of_mem_drop hy)
theorem fm_cut {ws : List Int} (i : Nat) (h : Pos ws) : fm (ws.take i ++ ws.drop (i + 1)) ≤ fm ws :=
  fm_mono (cut_pos i h) h (sle_cut ws i h)
/-! subset sums -/
def Rep : List Int → Int → Prop
  | [], n => n = 0
  | w :: l, n => Rep l n ∨ Rep l (n - w)
theorem Rep.perm {l m : List Int} (p : l.Perm m) : ∀ {n : Int}, Rep l n → Rep m n := by
  induction p with
  | nil => exact fun h => h
  | cons x _ ih => exact fun h => h.elim (fun k => .inl (ih k)) (fun k => .inr (ih k))
  | swap x y l =>
    intro n h
    rcases h with (h | h) | (h | h)
    · exact .inl (.inl h)
    · exact .inr (.inl h)
    · exact .inl (.inr h)
    · refine .inr (.inr ?_)
      rw [show n - x - y = n - y - x by omega]
      exact h
  | trans _ _ ih1 ih2 => exact fun h => ih2 (ih1 h)
theorem rep_snoc {l : List Int} {w n : Int} : Rep (l ++ [w]) n ↔ Rep l n ∨ Rep l (n - w) :=
  ⟨fun h => (Rep.perm (List.perm_append_singleton w l) h : Rep (w :: l) n), fun h => Rep.perm (List.perm_append_singleton w l).symm (h : Rep (w :: l) n)⟩
theorem Rep.nonneg : ∀ {l : List Int} {n : Int}, Pos l → Rep l n → 0 ≤ n
  | [], n, _, h => by have : n = 0 := h; omega
  | w :: l, n, hp, h => by
    have ⟨p1, p2⟩ := hp.cons
    rcases h with h | h
    · exact Rep.nonneg p2 h
    · have := Rep.nonneg p2 h; omega
theorem Rep.le_sum : ∀ {l : List Int} {n : Int}, Pos l → Rep l n → n ≤ l.sum
  | [], n, _, h => by have : n = 0 := h; show n ≤ 0; omega
  | w :: l, n, hp, h => by
    have ⟨p1, p2⟩ := hp.cons
    rw [List.sum_cons]
    rcases h with h | h
    · have := Rep.le_sum p2 h; omega
    · have := Rep.le_sum p2 h; omega
theorem Rep.sle {x : Int} : ∀ {l : List Int} {n : Int}, Pos l → n ≤ x → Rep l n → n ≤ sle x l
  | [], n, _, _, h => by have : n = 0 := h; show n ≤ 0; omega
  | w :: l, n, hp, hx, h => by
    have ⟨p1, p2⟩ := hp.cons
    rw [sle_cons]
    rcases h with h | h
    · have := Rep.sle p2 hx h; split <;> omega
    · have h0 := Rep.nonneg p2 h
      have := Rep.sle (x := x) p2 (by omega) h
      rw [if_pos (by omega)]; omega
theorem not_rep_fm {ws : List Int} (h : Pos ws) : ¬ Rep ws (fm ws) := fun k => by
  have := Rep.sle h (Int.le_refl _) k
  have := fm_sle h
  omega
theorem rep_of_lt : ∀ (l : List Int) (n : Int), 0 ≤ n → n < l.reverse.foldl fstep 1 → Rep l n
  | [], n, h0, h1 => by
    have h1' : n < 1 := h1
    show n = 0
    omega
  | w :: r, n, h0, h1 => by
    rw [List.reverse_cons, List.foldl_append] at h1
    have h1' : n < if w ≤ r.reverse.foldl fstep 1 then r.reverse.foldl fstep 1 + w else r.reverse.foldl fstep 1 := h1
    by_cases c : w ≤ n
    · refine .inr (rep_of_lt r (n - w) (by omega) ?_)
      split at h1' <;> omega
    · refine .inl (rep_of_lt r n h0 ?_)
      split at h1' <;> omega
theorem rep_fm {ws : List Int} {n : Int} (h0 : 0 ≤ n) (h1 : n < fm ws) : Rep ws n := by
  have : Rep (srt ws).reverse n := rep_of_lt _ n h0 (by rw [List.reverse_reverse]; exact h1)
  exact this.perm ((List.reverse_perm _).trans (srt_perm ws))
theorem fm_le_sum {ws : List Int} (h : Pos ws) : fm ws ≤ ws.sum + 1 := by
  refine fm_le h (by have := pos_sum h; omega) ?_
  have : sle (ws.sum + 1) ws ≤ ws.sum := by
    have : ∀ (l : List Int) (x : Int), Pos l → sle x l ≤ l.sum := by
      intro l x
      induction l with
      | nil => intro _; exact Int.le_refl _
      | cons a r ih =>
        intro hp
        have ⟨p1, p2⟩ := hp.cons
        have := ih p2
        rw [sle_cons, List.sum_cons]
        split <;> omega
    exact this ws _ h
  omega
end Wt
namespace Wt
/-! the fewest more -/
def fw (most : Int) : Nat → List Int → Int → List Int
  | 0, _, _ => []
  | k + 1, [], reach => if reach < most then (reach + 1) :: fw most k [] (2 * reach + 1) else []
  | k + 1, o :: r, reach => if reach < most then (if o ≤ reach + 1 then fw most k r (reach + o) else (reach + 1) :: fw most k (o :: r) (2 * reach + 1)) else []
def few (ws : List Int) (most : Int) : List Int := fw most most.toNat (srt ws) 0
theorem fw_stop {most : Int} {k : Nat} {ord : List Int} {reach : Int} (h : ¬ reach < most) : fw most k ord reach = [] := by
  cases k with
  | zero => rfl
  | succ k =>
    cases ord with
    | nil => exact if_neg h
    | cons o r => exact if_neg h
theorem fw_take {most : Int} {k : Nat} {o : Int} {r : List Int} {reach : Int} (h : reach < most) (c : o ≤ reach + 1) : fw most (k + 1) (o :: r) reach = fw most k r (reach + o) := (if_pos h).trans (if_pos c)
theorem fw_miss {most : Int} {k : Nat} {ord : List Int} {reach : Int} (h : reach < most) (c : ∀ o, ord.head? = some o → ¬ o ≤ reach + 1) : fw most (k + 1) ord reach = (reach + 1) :: fw most k ord (2 * reach + 1) := by
  cases ord with
  | nil => exact if_pos h
  | cons o r => exact (if_pos h).trans (if_neg (c o rfl))
/-- more turns than are needed change nothing -/
theorem fw_more {most : Int} : ∀ (k : Nat) {j : Nat} {ord : List Int} {reach : Int}, Pos ord → 0 ≤ reach → (most - reach).toNat ≤ k → k ≤ j → fw most j ord reach = fw most k ord reach
  | 0, j, ord, reach, hp, hr, h1, h2 => by
    have : ¬ reach < most := by omega
    rw [fw_stop this, fw_stop this]
  | k + 1, j, ord, reach, hp, hr, h1, h2 => by
    by_cases c : reach < most
    · obtain ⟨i, rfl⟩ : ∃ i, j = i + 1 := ⟨j - 1, by omega⟩
      cases ord with
      | nil =>
        rw [fw_miss c (fun o h => by cases h), fw_miss c (fun o h => by cases h), fw_more k hp (by omega) (by omega) (by omega)]
      | cons o r =>
        have ⟨p1, p2⟩ := hp.cons
        by_cases q : o ≤ reach + 1
        · rw [fw_take c q, fw_take c q, fw_more k p2 (by omega) (by omega) (by omega)]
        · have hq : ∀ o', (o :: r).head? = some o' → ¬ o' ≤ reach + 1 := fun o' h => by cases h; exact q
          rw [fw_miss c hq, fw_miss c hq, fw_more k hp (by omega) (by omega) (by omega)]
    · rw [fw_stop c, fw_stop c]
/-- weights lighter than m are taken in -/
def eat (m : Int) : List Int → Int → List Int × Int
  | [], W => ([], W)
  | o :: r, W => if o < m then eat m r (W + o) else (o :: r, W)
theorem eat_sub (m : Int) : ∀ (ord : List Int) (W : Int), ∃ pre, ord = pre ++ (eat m ord W).1 ∧ (eat m ord W).2 = W + pre.sum
  | [], W => ⟨[], rfl, by show W = W + 0; omega⟩
  | o :: r, W => by
    unfold eat
    split
    · obtain ⟨pre, e1, e2⟩ := eat_sub m r (W + o)
      refine ⟨o :: pre, ?_, ?_⟩
      · rw [List.cons_append, ← e1]
      · rw [e2, List.sum_cons]; omega
    · exact ⟨[], rfl, by show W = W + 0; omega⟩
theorem eat_pos {m : Int} {ord : List Int} {W : Int} (h : Pos ord) (hW : 0 ≤ W) : Pos (eat m ord W).1 ∧ 0 ≤ (eat m ord W).2 := by
  obtain ⟨pre, e1, e2⟩ := eat_sub m ord W
  have h1 : Pos (eat m ord W).1 := h.sub fun x hx => by rw [e1]; exact List.mem_append.mpr (.inr hx)
  have h2 : Pos pre := h.sub fun x hx => by rw [e1]; exact List.mem_append.mpr (.inl hx)
  have := pos_sum h2
  exact ⟨h1, by omega⟩
/-- the program's look at the misses; W: the lighter weights and the misses ahead together -/
def shL (most : Int) : List Int → Int → List Int → Bool
  | _, _, [] => true
  | ord, W, m :: r => if ¬ (1 ≤ m ∧ m ≤ most) ∨ (eat m ord W).1.head? = some m ∨ (eat m ord W).2 ≠ m - 1 then false else shL most (eat m ord W).1 ((eat m ord W).2 + m) r
/-- the law's own look -/
def duL (most : Int) : List Int → Int → Int → List Int → Bool
  | _, _, _, [] => true
  | ord, W, ah, m :: r => if ¬ (ah < m ∧ m ≤ most) then false else if (eat m ord W).1.head? = some m ∨ (eat m ord W).2 + ah ≠ m - 1 then false else duL most (eat m ord W).1 (eat m ord W).2 (ah + m) r
theorem eat_shift (m d : Int) : ∀ (ord : List Int) (W : Int), (eat m ord (W + d)).1 = (eat m ord W).1 ∧ (eat m ord (W + d)).2 = (eat m ord W).2 + d
  | [], W => ⟨rfl, rfl⟩
  | o :: r, W => by
    unfold eat
    split
    · have := eat_shift m d r (W + o)
      rw [show W + d + o = W + o + d by omega]
      exact this
    · exact ⟨rfl, rfl⟩
theorem sh_du {most : Int} : ∀ (ms : List Int) {ord : List Int} {W ah : Int}, Pos ord → 0 ≤ W → 0 ≤ ah → shL most ord (W + ah) ms = duL most ord W ah ms
  | [], _, _, _, _, _, _ => by
    unfold shL duL
    rfl
  | m :: r, ord, W, ah, hp, hW, ha => by
    have ⟨e1, e2⟩ := eat_shift m ah ord W
    have ⟨q1, q2⟩ := eat_pos (m := m) hp hW
    unfold shL duL
    rw [e1, e2]
    by_cases c : (eat m ord W).1.head? = some m ∨ (eat m ord W).2 + ah ≠ m - 1
    · rw [if_pos (Or.inr c), if_pos c]
      split <;> rfl
    · rw [if_neg c]
      have c1 := fun z => c (Or.inl z)
      have c2 : (eat m ord W).2 + ah = m - 1 := Classical.byContradiction fun z => c (Or.inr z)
      by_cases g : m ≤ most
      · rw [if_neg (fun z : ¬ (ah < m ∧ m ≤ most) => z ⟨by omega, g⟩)]
        rw [if_neg (fun z : ¬ (1 ≤ m ∧ m ≤ most) ∨ _ => z.elim (fun w => w ⟨by omega, g⟩) c)]
        have ih := sh_du (most := most) r (ord := (eat m ord W).1) (W := (eat m ord W).2) (ah := ah + m) q1 q2 (by omega)
        rw [show (eat m ord W).2 + ah + m = (eat m ord W).2 + (ah + m) by omega]
        exact ih
      · rw [if_pos (fun z : ah < m ∧ m ≤ most => g z.2), if_pos (Or.inl fun z : 1 ≤ m ∧ m ≤ most => g z.2)]
def shB (ws : List Int) (most : Int) (added misses : List Int) : Bool :=
  if added.length ≠ misses.length ∨ added.all (fun a => decide (0 < a)) = false then false else if fm (ws ++ added) ≤ most then false else shL most (srt ws) 0 misses
def duB (ws : List Int) (most : Int) (added misses : List Int) : Bool :=
  if added.length ≠ misses.length ∨ added.any (fun a => decide (a < 1)) = true ∨ lg (ws ++ added) ≤ most then false else duL most (srt ws) 0 0 misses
theorem any_all (added : List Int) : added.any (fun a => decide (a < 1)) = true ↔ added.all (fun a => decide (0 < a)) = false := by
  induction added with
  | nil => simp
  | cons a r ih =>
    rw [List.any_cons, List.all_cons, Bool.or_eq_true, Bool.and_eq_false_iff, ih]
    refine or_congr ?_ Iff.rfl
    simp; omega
theorem shB_duB {ws : List Int} (h : Pos ws) (most : Int) (added misses : List Int) : shB ws most added misses = duB ws most added misses := by
  unfold shB duB
  rw [← fm_lg]
  have e : shL most (srt ws) 0 misses = duL most (srt ws) 0 0 misses := sh_du (W := 0) (ah := 0) misses (h.perm (srt_perm ws)) (by omega) (by omega)
  by_cases c1 : added.length ≠ misses.length
  · rw [if_pos (Or.inl c1), if_pos (Or.inl c1)]
  · by_cases c2 : added.any (fun a => decide (a < 1)) = true
    · rw [if_pos (Or.inr ((any_all added).mp c2)), if_pos (Or.inr (Or.inl c2))]
    · by_cases c3 : fm (ws ++ added) ≤ most
      · rw [if_neg (fun z => z.elim c1 fun w => c2 ((any_all added).mpr w)), if_pos c3, if_pos (Or.inr (Or.inr c3))]
      · rw [if_neg (fun z => z.elim c1 fun w => c2 ((any_all added).mpr w)), if_neg c3, if_neg (fun z => z.elim c1 fun w => w.elim c2 c3), e]
/-! what the fewest are worth -/
/-- everything put in, in the order it comes -/
structure FwOk (most : Int) (reach : Int) (ord : List Int) (ms : List Int) : Prop where
  pos : Pos ms
  sh : ∀ (pre : List Int) (W : Int), (∀ m, reach < m → eat m (pre ++ ord) W = eat m ord (W + pre.sum)) → W + pre.sum = reach → shL most (pre ++ ord) W ms = true
  far : ∀ base : List Int, Pos base → reach + 1 ≤ fm base → most + 1 ≤ fm (base ++ ord ++ ms)
theorem eat_pre {m : Int} : ∀ {pre ord : List Int} {W : Int}, (∀ x ∈ pre, x < m) → eat m (pre ++ ord) W = eat m ord (W + pre.sum)
  | [], ord, W, _ => by
    show eat m ord W = eat m ord (W + 0)
    rw [Int.add_zero]
  | a :: r, ord, W, h => by
    have ha := h a List.mem_cons_self
    show (if a < m then eat m (r ++ ord) (W + a) else _) = _
    rw [if_pos ha, eat_pre fun x hx => h x (List.mem_cons_of_mem _ hx), List.sum_cons, Int.add_assoc]
theorem eat_stop {m : Int} {ord : List Int} {W : Int} (h : ∀ o, ord.head? = some o → ¬ o < m) : eat m ord W = (ord, W) := by
  cases ord with
  | nil => rfl
  | cons o r => exact if_neg (h o rfl)
theorem fm_mid {a b c : List Int} : fm (a ++ b ++ c) = fm (a ++ c ++ b) := by
  refine fm_perm ?_
  rw [List.append_assoc, List.append_assoc]
  exact List.Perm.append_left a List.perm_append_comm
theorem fw_ok {most : Int} : ∀ (k : Nat) {ord : List Int} {reach : Int}, Pos ord → 0 ≤ reach → (most - reach).toNat ≤ k → FwOk most reach ord (fw most k ord reach)
  | 0, ord, reach, hp, hr, hk => by
    have : ¬ reach < most := by omega
    rw [fw_stop this]
    refine ⟨Pos.nil, fun pre W _ _ => by unfold shL; rfl, fun base hb hf => ?_⟩
    rw [List.append_nil]
    have := fm_app_left hb hp
    omega
  | k + 1, ord, reach, hp, hr, hk => by
    by_cases c : reach < most
    · have miss : (∀ o, ord.head? = some o → ¬ o ≤ reach + 1) → FwOk most reach ord (fw most (k + 1) ord reach) := by
        intro hq
        rw [fw_miss c hq]
        have ih := fw_ok (most := most) k (ord := ord) (reach := 2 * reach + 1) hp (by omega) (by omega)
        refine ⟨fun w hw => ?_, fun pre W he hW => ?_, fun base hb hf => ?_⟩
        · rcases List.mem_cons.mp hw with e | e
          · rw [e]; omega
          · exact ih.pos w e
        · have e1 : eat (reach + 1) (pre ++ ord) W = (ord, reach) := by
            rw [he _ (by omega), eat_stop fun o ho => by have := hq o ho; omega, hW]
          unfold shL
          rw [e1]
          rw [if_neg]
          · have := ih.sh [] (reach + (reach + 1)) (fun m hm => by rw [List.nil_append, List.sum_nil, Int.add_zero]) (by rw [List.sum_nil]; omega)
            rw [List.nil_append] at this
            exact this
          · rintro (z | z | z)
            · exact z ⟨by omega, by omega⟩
            · have := hq _ z; omega
            · exact z (by show reach = reach + 1 - 1; omega)
        · have hb2 : Pos (base ++ [reach + 1]) := hb.append (Pos.one (by omega))
          have := ih.far (base ++ [reach + 1]) hb2 (by have := fm_put hb (show 1 ≤ reach + 1 by omega) hf; omega)
          have e : fm (base ++ ord ++ (reach + 1) :: fw most k ord (2 * reach + 1)) = fm (base ++ [reach + 1] ++ ord ++ fw most k ord (2 * reach + 1)) := by
            refine fm_perm ?_
            have : base ++ ord ++ (reach + 1) :: fw most k ord (2 * reach + 1) = (base ++ ord ++ [reach + 1]) ++ fw most k ord (2 * reach + 1) := by
              rw [List.append_assoc (base ++ ord), List.singleton_append]
            rw [this]
            refine List.Perm.append_right _ ?_
            rw [List.append_assoc, List.append_assoc]
            exact List.Perm.append_left base List.perm_append_comm
          rw [e]
          exact this
      cases ord with
      | nil => exact miss fun o h => nomatch h
      | cons o r =>
        have ⟨p1, p2⟩ := hp.cons
        by_cases q : o ≤ reach + 1
        · rw [fw_take c q]
          have ih := fw_ok (most := most) k (ord := r) (reach := reach + o) p2 (by omega) (by omega)
          refine ⟨ih.pos, fun pre W he hW => ?_, fun base hb hf => ?_⟩
          · have e : pre ++ o :: r = (pre ++ [o]) ++ r := by rw [List.append_assoc, List.singleton_append]
            rw [e]
            refine ih.sh (pre ++ [o]) W (fun m hm => ?_) (by rw [List.sum_append_int, List.sum_cons, List.sum_nil]; omega)
            rw [← e, he m (by omega), List.sum_append_int, List.sum_cons, List.sum_nil]
            show (if o < m then eat m r (W + pre.sum + o) else _) = _
            rw [if_pos (by omega)]
            congr 1
            omega
          · have := ih.far (base ++ [o]) (hb.append (Pos.one p1)) (by have := fm_put hb p1 (by omega); omega)
            rw [List.append_assoc base, List.singleton_append] at this
            exact this
        · exact miss fun o' h => by cases h; exact q
    · rw [fw_stop c]
      refine ⟨Pos.nil, fun pre W _ _ => by unfold shL; rfl, fun base hb hf => ?_⟩
      rw [List.append_nil]
      have := fm_app_left hb hp
      omega
theorem few_ok {ws : List Int} (h : Pos ws) {most : Int} (h0 : 0 ≤ most) : Pos (few ws most) ∧ shL most (srt ws) 0 (few ws most) = true ∧ most + 1 ≤ fm (ws ++ few ws most) := by
  have f := fw_ok (most := most) most.toNat (ord := srt ws) (reach := 0) (h.perm (srt_perm ws)) (Int.le_refl _) (by omega)
  refine ⟨f.pos, ?_, ?_⟩
  · exact f.sh [] 0 (fun m _ => by rw [List.nil_append, List.sum_nil, Int.add_zero]) rfl
  · have := f.far [] Pos.nil (by show (0 : Int) + 1 ≤ 1; omega)
    rw [List.nil_append] at this
    have e : fm (srt ws ++ few ws most) = fm (ws ++ few ws most) := fm_perm ((srt_perm ws).append_right _)
    rw [← e]
    exact this
theorem few_sh {ws : List Int} (h : Pos ws) {most : Int} (h0 : 0 ≤ most) : shB ws most (few ws most) (few ws most) = true := by
  obtain ⟨a, b, c⟩ := few_ok h h0
  unfold shB
  rw [if_neg, if_neg (by omega)]
  · exact b
  · rintro (z | z)
    · exact z rfl
    · rw [List.all_eq_false] at z
      obtain ⟨x, hx, hz⟩ := z
      have := a x hx
      exact hz (by simpa using (by omega : 0 < x))
end Wt
namespace Wt
open PySem L2 PySem.Spec PyProof.Rows
/-! ### heaps -/
theorem same_up {H : Hp} {p : Addr} {o : HO} (h : H p = none) : Same H (upd H p o) := fun b x e => by
  rw [upd_ne (ne_of_none e h)]
  exact e
/-- a thing that the heap H does not know may change -/
theorem same_mut {H H' : Hp} {p : Addr} {o : HO} (e : Same H H') (h : H p = none) : Same H (upd H' p o) := fun b x k => by
  rw [upd_ne (ne_of_none k h)]
  exact e b x k
theorem same_at {H H' : Hp} {a : Addr} {o : HO} (e : Same H H') (h : H a = some o) : H' a = some o := e a o h
theorem sq_h {K : PySem.W.Frag} {H : Hp} {a : Addr} {xs : List V} (h : H a = some (.lst xs)) : SqL K H a xs := .inl (.inl h)
theorem st_h {K : PySem.W.Frag} {H : Hp} {a : Addr} {xs : List V} (h : H a = some (.tup xs)) : SqT K H a xs := .inl (.inl h)
theorem same_sq {K : PySem.W.Frag} {H H' : Hp} {a : Addr} {xs : List V} (e : Same H H') (h : SqL K H a xs) : SqL K H' a xs := e.seq h
theorem same_st {K : PySem.W.Frag} {H H' : Hp} {a : Addr} {xs : List V} (e : Same H H') (h : SqT K H a xs) : SqT K H' a xs := by
  rcases h with (h | ⟨o, h⟩) | h
  · exact .inl (.inl (e _ _ h))
  · exact .inl (.inr ⟨o, e _ _ h⟩)
  · exact .inr h
theorem line_big : (16777216 : Nat) ≤ sizeLine := by
  rw [sizeLine_eq]
  exact Nat.le_refl _
theorem fits {n : Nat} (h : n ≤ 16777215) : n ≤ sizeLine := Nat.le_trans h (Nat.le_trans (by decide) line_big)
theorem fits_lt {n : Nat} (h : n ≤ 16777215) : n < sizeLine := Nat.lt_of_lt_of_le (Nat.lt_succ_of_le h) line_big
/-! ### readings from the left -/
section
variable {K : PySem.W.Frag} {σ σ' : L2.St} {H H' : Hp} {Q : VK} {QB : Bool → Hp → Prop} {QA : List V → Hp → Prop} {ta tb tc te : TE} {t u : TT} {r r' : R2} {x y z v : V} {i : Nat} {a b : Int} {tr : TA} {D : Ends} {tS uS : TS} {P : Prop}
def NewO (Q : VK) (n : Nat) (o : HO) (H : Hp) : Prop := n ≤ sizeLine ∧ ∀ p, H p = none → Q (.ref p) (upd H p o)
def MkO (C : Addr) (sp : Sp) (E : XK) (Q : VK) (vs : List V) (H1 : Hp) : Prop := ∀ x dx, H1 x = none → H1 dx = none → dx ≠ x → sp (.ref x :: vs) (upd (upd H1 dx (.own x)) x (.ins C dx [])) (fun v H2 => v = .non ∧ Q (.ref x) H2) E
def RevO (K : PySem.W.Frag) (Q : VK) (x : V) (H1 : Hp) : Prop := ∃ a xs, x = .ref a ∧ SqL K H1 a xs ∧ ∀ p, H1 p = none → Q (.ref p) (upd H1 p (.lst xs.reverse))
theorem w_var (h : σ[i]? = some (some v)) (k : Q v H) : tVar i σ H Q := ⟨v, h, k⟩
theorem w_c (k : Q v H) : tC v σ H Q := k
theorem w_op (k : ta σ H fun x H1 => tb σ H1 fun y H2 => r x y H2 Q) : tOp r ta tb σ H Q := k
theorem w_un {f : V → Hp → VK → Prop} (k : ta σ H fun x H1 => f x H1 Q) : tUn f ta σ H Q := k
theorem w_nil (k : QA [] H) : tNil σ H QA := k
theorem w_cons (k : te σ H fun x H1 => tr σ H1 fun xs H2 => QA (x :: xs) H2) : tCons te tr σ H QA := k
theorem w_tup (k : tr σ H fun xs H1 => NewO Q xs.length (.tup xs) H1) : tTup tr σ H Q := k
theorem w_lst (k : tr σ H fun xs H1 => NewO Q xs.length (.lst xs) H1) : tLst tr σ H Q := k
theorem w_cb {f : List V → Hp → VK → Prop} (k : tr σ H fun vs H1 => f vs H1 Q) : tCB f tr σ H Q := k
theorem w_test (k : te σ H fun x H' => ∃ k, x = .bl k ∧ QB k H') : tTest te σ H QB := k
theorem w_B (k : te σ H fun x H' => ∃ k, x = .bl k ∧ QB k H') : tB te σ H QB := k
theorem w_and (k : t σ H fun c H1 => if c = true then u σ H1 QB else QB false H1) : tAnd t u σ H QB := k
theorem w_or (k : t σ H fun c H1 => if c = true then QB true H1 else u σ H1 QB) : tOr t u σ H QB := k
theorem w_not (k : t σ H fun c H1 => QB (!c) H1) : tNot t σ H QB := k
theorem w_andV (k : ta σ H fun x H1 => ∃ c, x = .bl c ∧ if c = true then tb σ H1 Q else Q (.bl false) H1) : tAndV ta tb σ H Q := k
theorem w_orV (k : ta σ H fun x H1 => ∃ c, x = .bl c ∧ if c = true then Q (.bl true) H1 else tb σ H1 Q) : tOrV ta tb σ H Q := k
theorem w_notV (k : ta σ H fun x H1 => ∃ c, x = .bl c ∧ Q (.bl (!c)) H1) : tNotV ta σ H Q := k
theorem w_ifE (k : t σ H fun c H1 => if c = true then ta σ H1 Q else tb σ H1 Q) : tIf t ta tb σ H Q := k
theorem w_chain (k : ta σ H fun x H1 => tb σ H1 fun y H2 => r x y H2 fun z H3 => ∃ k, z = .bl k ∧ (if k = true then tc σ H3 fun w' H4 => r' y w' H4 Q else Q (.bl false) H3)) : tChain r r' ta tb tc σ H Q := k
theorem w_fld {f : Str} (k : ta σ H fun x H1 => ∃ a C dx fs v, x = .ref a ∧ H1 a = some (.ins C dx fs) ∧ Cls K C ∧ NoAttr K C f ∧ fs.lookup f = some v ∧ Q v H1) : tFld K ta f σ H Q := k
theorem w_call {sp : Sp} {E : XK} (k : tr σ H fun vs H1 => sp vs H1 Q E) : tCall sp [] E tr σ H Q := by
  have e : (fun (vs : List V) (H1 : Hp) => sp (vs ++ []) H1 Q E) = fun vs H1 => sp vs H1 Q E := by
    funext vs H1
    rw [List.append_nil]
  show tr σ H (fun vs H1 => sp (vs ++ []) H1 Q E)
  rw [e]
  exact k
theorem w_meth {C : Addr} {m : Str} {sp : Sp} {E : XK} (k : ta σ H fun x H1 => ∃ a dx fs, x = .ref a ∧ H1 a = some (.ins C dx fs) ∧ fs.lookup m = none ∧ tr σ H1 fun vs H2 => sp (x :: vs) H2 Q E) : tMeth C m sp [] E ta tr σ H Q := by
  have e : ∀ x : V, (fun (vs : List V) (H2 : Hp) => sp (x :: (vs ++ [])) H2 Q E) = fun vs H2 => sp (x :: vs) H2 Q E := by
    intro x
    funext vs H2
    rw [List.append_nil]
  show ta σ H fun x H1 => ∃ a dx fs, x = .ref a ∧ H1 a = some (.ins C dx fs) ∧ fs.lookup m = none ∧ tr σ H1 fun vs H2 => sp (x :: (vs ++ [])) H2 Q E
  simp only [e]
  exact k
theorem w_make {C : Addr} {sp : Sp} {E : XK} (k : tr σ H fun vs H1 => MkO C sp E Q vs H1) : tMake C sp [] E tr σ H Q := by
  have e : (fun (vs : List V) (H1 : Hp) => ∀ x dx, H1 x = none → H1 dx = none → dx ≠ x → sp (.ref x :: (vs ++ [])) (upd (upd H1 dx (.own x)) x (.ins C dx [])) (fun v H2 => v = .non ∧ Q (.ref x) H2) E) = fun vs H1 => MkO C sp E Q vs H1 := by
    funext vs H1
    simp only [List.append_nil]
    rfl
  show tr σ H fun vs H1 => ∀ x dx, H1 x = none → H1 dx = none → dx ≠ x → sp (.ref x :: (vs ++ [])) (upd (upd H1 dx (.own x)) x (.ins C dx [])) (fun v H2 => v = .non ∧ Q (.ref x) H2) E
  rw [e]
  exact k
theorem w_sl {f : V → Option Int → Option Int → Hp → VK → Prop} {tl th : TO} (k : te σ H fun x H1 => tl σ H1 fun l H2 => th σ H2 fun u H3 => f x l u H3 Q) : tSl f te tl th σ H Q := k
theorem w_part {QO : Option Int → Hp → Prop} (k : te σ H fun x H1 => ∃ i, x = .int i ∧ QO (some i) H1) : tPart te σ H QO := k
theorem w_nopart {QO : Option Int → Hp → Prop} (k : QO none H) : tNoPart σ H QO := k
theorem w_bm {T : String} {f : V → List V → Hp → VK → Prop} (k : ta σ H fun x H1 => tyV K T x H1 ∧ tr σ H1 fun xs H2 => f x xs H2 Q) : tBM K T f ta tr σ H Q := k
theorem w_bm0 {T : String} {f : V → List V → Hp → VK → Prop} (k : ta σ H fun x H1 => tyV K T x H1 ∧ f x [] H1 Q) : tBM0 K T f ta σ H Q := k
theorem w_rev (k : te σ H fun x H1 => RevO K Q x H1) : tRevL K te σ H Q := k
theorem w_yes (k : QB true H) : tYes σ H QB := k
/-! statements -/
theorem w_seq (k : tS { D with nx := uS D } σ H) : tSeq tS uS D σ H := k
theorem w_asg (k : te σ H fun x H1 => D.nx (σ.set i (some x)) H1) : tAsg te (gName i) D σ H := k
theorem w_ifS (k : t σ H fun b H1 => if b = true then tS D σ H1 else uS D σ H1) : tIfS t tS uS D σ H := k
theorem w_ret (k : te σ H D.rt) : tRet te D σ H := k
theorem w_drop (k : te σ H fun _ H1 => D.nx σ H1) : tDrop te D σ H := k
theorem w_next (k : D.nx σ H) : tNext D σ H := k
theorem w_flds {tv : TE} {f : Str} (k : tv σ H fun y H1 => ta σ H1 fun x H2 => ∃ a C dx fs, x = .ref a ∧ H2 a = some (.ins C dx fs) ∧ Cls K C ∧ NoAttr K C f ∧ fs.length < 1000 ∧ D.nx σ (upd H2 a (.ins C dx (putF f y fs)))) : sFld K ta tv f D σ H := k
theorem set_0 {w : Option V} {l : L2.St} : (w :: l).set 0 (some v) = some v :: l := rfl
theorem set_s {w : Option V} {l l' : L2.St} {n : Nat} {q : Option V} (h : l.set n q = l') : (w :: l).set (n + 1) q = w :: l' := by rw [List.set_cons_succ, h]
theorem w_nx {f : L2.St → Hp → Prop} {q : Option V} (h : σ.set i q = σ') (k : f σ' H) : f (σ.set i q) H := h ▸ k
/-! values -/
theorem v_b {c : Bool} {q : Bool → Prop} (k : q c) : ∃ k, V.bl c = V.bl k ∧ q k := ⟨c, rfl, k⟩
theorem v_i {q : Int → Prop} (k : q a) : ∃ i, V.int a = V.int i ∧ q i := ⟨a, rfl, k⟩
theorem v_I0 {g : Int → Int → V} (k : Q (g a b) H) : rI0 g (.int a) (.int b) H Q := ⟨a, b, rfl, rfl, k⟩
theorem v_I {C : Int → Int → Prop} {g : Int → Int → V} (c : C a b) (k : Q (g a b) H) : rI C g (.int a) (.int b) H Q := ⟨a, b, rfl, rfl, c, k⟩
theorem v_U {g : Int → V} (k : Q (g a) H) : rU g (.int a) H Q := ⟨a, rfl, k⟩
theorem v_eqI (k : Q (.bl (decide (a = b))) H) : rEq (.int a) (.int b) H Q := ⟨rfl, by rw [show decide (V.int a = V.int b) = decide (a = b) from decide_eq_decide.mpr ⟨V.int.inj, congrArg _⟩]; exact k⟩
theorem v_neI (k : Q (.bl (!decide (a = b))) H) : rNe (.int a) (.int b) H Q := ⟨rfl, by rw [show decide (V.int a = V.int b) = decide (a = b) from decide_eq_decide.mpr ⟨V.int.inj, congrArg _⟩]; exact k⟩
theorem v_eqB {c d : Bool} (k : Q (.bl (c == d)) H) : rEq (.bl c) (.bl d) H Q := ⟨rfl, by rw [dec_bl]; exact k⟩
theorem v_neB {c d : Bool} (k : Q (.bl (!(c == d))) H) : rNe (.bl c) (.bl d) H Q := ⟨rfl, by rw [dec_bl]; exact k⟩
theorem v_ixL {p : Addr} {xs : List V} (h : SqL K H p xs) (e : atI xs a = some v) (k : Q v H) : rIxL K (.ref p) (.int a) H Q := ⟨p, xs, a, v, rfl, rfl, h, e, k⟩
theorem v_ixT {p : Addr} {xs : List V} (h : SqT K H p xs) (e : atI xs a = some v) (k : Q v H) : rIxT K (.ref p) (.int a) H Q := ⟨p, xs, a, v, rfl, rfl, h, e, k⟩
theorem v_new {o : HO} {q : V → Hp → Prop} (k : ∀ p H2, H p = none → Same H H2 → H2 p = some o → q (.ref p) H2) : ∀ p, H p = none → q (.ref p) (upd H p o) := fun p hp => k p _ hp (same_up hp) upd_same
theorem v_newL {o : HO} {n : Nat} (hz : n ≤ 16777215) (k : ∀ p H2, H p = none → Same H H2 → H2 p = some o → Q (.ref p) H2) : NewO Q n o H := ⟨fits hz, v_new k⟩
theorem v_ift {A B : Prop} {c : Bool} (h : c = true) (k : A) : if c = true then A else B := by rw [if_pos h]; exact k
theorem v_iff {A B : Prop} {c : Bool} (h : c = false) (k : B) : if c = true then A else B := by rw [if_neg (by rw [h]; exact Bool.false_ne_true)]; exact k
theorem v_if {A B : Prop} {c : Bool} (h1 : c = true → A) (h2 : c = false → B) : if c = true then A else B := by
  cases c with
  | true => exact h1 rfl
  | false => exact h2 rfl
theorem v_fld {o C dx : Addr} {fs : List (Str × V)} {f : Str} {q : V → Prop} (h : H o = some (.ins C dx fs)) (hc : Cls K C) (hn : NoAttr K C f) (hl : fs.lookup f = some v) (k : q v) :
    ∃ a C dx fs v, V.ref o = .ref a ∧ H a = some (.ins C dx fs) ∧ Cls K C ∧ NoAttr K C f ∧ fs.lookup f = some v ∧ q v := ⟨o, C, dx, fs, v, rfl, h, hc, hn, hl, k⟩
theorem v_meth {o C dx : Addr} {fs : List (Str × V)} {m : Str} {q : Prop} (h : H o = some (.ins C dx fs)) (hl : fs.lookup m = none) (k : q) : ∃ a dx fs, V.ref o = .ref a ∧ H a = some (.ins C dx fs) ∧ fs.lookup m = none ∧ q := ⟨o, dx, fs, rfl, h, hl, k⟩
/-- a value by and, or: the right side is asked in a like heap, its answer known -/
theorem v_andV {c d : Bool} (h : c = true → ∀ q : VK, (∀ H2, Same H H2 → q (.bl d) H2) → tb σ H q) (k : ∀ H2, Same H H2 → Q (.bl (c && d)) H2) : if c = true then tb σ H Q else Q (.bl false) H := by
  cases c with
  | true => exact h rfl Q k
  | false => exact k H (Same.refl H)
theorem v_orV {c d : Bool} (h : c = false → ∀ q : VK, (∀ H2, Same H H2 → q (.bl d) H2) → tb σ H q) (k : ∀ H2, Same H H2 → Q (.bl (c || d)) H2) : if c = true then Q (.bl true) H else tb σ H Q := by
  cases c with
  | true => exact k H (Same.refl H)
  | false => exact h rfl Q k
/-- the same for tests -/
theorem v_and {c d : Bool} (h : c = true → ∀ q : Bool → Hp → Prop, (∀ H2, Same H H2 → q d H2) → u σ H q) (k : ∀ H2, Same H H2 → QB (c && d) H2) : if c = true then u σ H QB else QB false H := by
  cases c with
  | true => exact h rfl QB k
  | false => exact k H (Same.refl H)
theorem v_or {c d : Bool} (h : c = false → ∀ q : Bool → Hp → Prop, (∀ H2, Same H H2 → q d H2) → u σ H q) (k : ∀ H2, Same H H2 → QB (c || d) H2) : if c = true then QB true H else u σ H QB := by
  cases c with
  | true => exact k H (Same.refl H)
  | false => exact h rfl QB k
/-- a chained comparison of ints -/
theorem v_ch {c d : Bool} (h : c = true → ∀ q' : VK, q' (.bl d) H → tc σ H fun w' H4 => r' y w' H4 q') (k : Q (.bl (c && d)) H) : if c = true then tc σ H fun w' H4 => r' y w' H4 Q else Q (.bl false) H := by
  cases c with
  | true => exact h rfl Q k
  | false => exact k
/-! built-ins -/
theorem v_sum {l : Addr} {ns : List Int} (h : SqL K H l (ns.map V.int)) (k : Q (.int ns.sum) H) : rSum K [.ref l] H Q := ⟨l, ns, rfl, h, k⟩
theorem v_all {l : Addr} {bs : List Bool} (h : SqL K H l (bs.map V.bl)) (k : Q (.bl (bs.all id)) H) : rAll K [.ref l] H Q := ⟨l, bs, rfl, h, k⟩
theorem v_any {l : Addr} {bs : List Bool} (h : SqL K H l (bs.map V.bl)) (k : Q (.bl (bs.any id)) H) : rAny K [.ref l] H Q := ⟨l, bs, rfl, h, k⟩
theorem v_sorted {l : Addr} {ns : List Int} (h : SqL K H l (ns.map V.int)) (k : ∀ p H2, H p = none → Same H H2 → H2 p = some (.lst ((srt ns).map V.int)) → Q (.ref p) H2) : rSortedI K [.ref l] H Q :=
  ⟨l, ns, rfl, h, fun ns' p hp hs hn => by rw [srt_uniq hp hs]; exact k p _ hn (same_up hn) upd_same⟩
theorem v_slice {l : Addr} {xs : List V} {lo hi : Option Int} (h : SqL K H l xs) (k : ∀ p H2, H p = none → Same H H2 → H2 p = some (.lst (cutV xs lo hi)) → Q (.ref p) H2) : rSlL K (.ref l) lo hi H Q := ⟨l, xs, rfl, h, v_new k⟩
theorem cut_from {α : Type} (f : α → V) (ns : List α) {i : Int} (h : 0 ≤ i) : cutV (ns.map f) (some i) none = (ns.drop i.toNat).map f := by
  obtain ⟨j, rfl⟩ := Int.eq_ofNat_of_zero_le h
  unfold cutV
  rw [HT.sIx_none, show HT.sIx (ns.map f).length 0 (some ((j : Nat) : Int)) = min j (ns.map f).length from HT.sIx_nat _ _ _, Int.toNat_natCast, List.length_map, ← List.map_drop, ← List.map_take]
  congr 1
  by_cases c : j ≤ ns.length
  · rw [Nat.min_eq_left c]
    refine List.take_of_length_le ?_
    rw [List.length_drop]
    omega
  · rw [Nat.min_eq_right (by omega), List.drop_of_length_le (Nat.le_refl _), List.drop_of_length_le (by omega), List.take_nil]
theorem cut_to {α : Type} (f : α → V) (ns : List α) {i : Int} (h : 0 ≤ i) : cutV (ns.map f) none (some i) = (ns.take i.toNat).map f := by
  obtain ⟨j, rfl⟩ := Int.eq_ofNat_of_zero_le h
  unfold cutV
  rw [HT.sIx_none, show HT.sIx (ns.map f).length (ns.map f).length (some ((j : Nat) : Int)) = min j (ns.map f).length from HT.sIx_nat _ _ _, Int.toNat_natCast, List.length_map, List.drop_zero, Nat.sub_zero, ← List.map_take]
  congr 1
  by_cases c : j ≤ ns.length
  · rw [Nat.min_eq_left c]
  · rw [Nat.min_eq_right (by omega), List.take_of_length_le (Nat.le_refl _), List.take_of_length_le (by omega)]
theorem v_sliceF {l : Addr} {ns : List Int} (h : SqL K H l (ns.map V.int)) (ha : 0 ≤ a) (k : ∀ p H2, H p = none → Same H H2 → H2 p = some (.lst ((ns.drop a.toNat).map V.int)) → Q (.ref p) H2) : rSlL K (.ref l) (some a) none H Q :=
  v_slice h fun p H2 h1 h2 h3 => k p H2 h1 h2 (by rw [← cut_from V.int ns ha]; exact h3)
theorem v_sliceT {l : Addr} {ns : List Int} (h : SqL K H l (ns.map V.int)) (ha : 0 ≤ a) (k : ∀ p H2, H p = none → Same H H2 → H2 p = some (.lst ((ns.take a.toNat).map V.int)) → Q (.ref p) H2) : rSlL K (.ref l) none (some a) H Q :=
  v_slice h fun p H2 h1 h2 h3 => k p H2 h1 h2 (by rw [← cut_to V.int ns ha]; exact h3)
theorem v_cat {l m : Addr} {ns ms : List Int} (h : H l = some (.lst (ns.map V.int))) (h' : H m = some (.lst (ms.map V.int))) (hz : ns.length + ms.length ≤ 16777215) (k : ∀ p H2, H p = none → Same H H2 → H2 p = some (.lst ((ns ++ ms).map V.int)) → Q (.ref p) H2) :
    rCat (.ref l) (.ref m) H Q := ⟨l, m, _, _, rfl, rfl, h, h', by rw [List.length_map, List.length_map]; exact fits hz, fun p hp => by rw [← List.map_append]; exact k p _ hp (same_up hp) upd_same⟩
theorem v_rev {l : Addr} {ns : List Int} (h : SqL K H l (ns.map V.int)) (k : ∀ p H2, H p = none → Same H H2 → H2 p = some (.lst (ns.reverse.map V.int)) → Q (.ref p) H2) :
    RevO K Q (.ref l) H := ⟨l, _, rfl, h, fun p hp => by rw [← List.map_reverse]; exact k p _ hp (same_up hp) upd_same⟩
def rLen (K : PySem.W.Frag) : List V → Hp → VK → Prop := fun xs H Q => ∃ p ys, xs = [.ref p] ∧ (SqL K H p ys ∨ SqT K H p ys) ∧ Q (.int ys.length) H
theorem call_lenK {X : Cx} : CallR X (.builtin "len") (rLen X.K) := call_len_seq
theorem v_len {l : Addr} {ns : List Int} (h : SqL K H l (ns.map V.int)) (k : Q (.int (ns.length : Int)) H) : rLen K [.ref l] H Q := ⟨l, _, rfl, .inl h, by rw [List.length_map]; exact k⟩
def rListOf (K : PySem.W.Frag) : List V → Hp → VK → Prop := fun xs H Q => ∃ p ys, xs = [.ref p] ∧ (SqL K H p ys ∨ SqT K H p ys) ∧ ∀ l, H l = none → Q (.ref l) (upd H l (.lst ys))
theorem call_listK {X : Cx} : CallR X (.type "list") (rListOf X.K) := call_list_of
theorem v_list {l : Addr} {ys : List V} (h : SqL K H l ys) (k : ∀ p H2, H p = none → Same H H2 → H2 p = some (.lst ys) → Q (.ref p) H2) : rListOf K [.ref l] H Q := ⟨l, ys, rfl, .inl h, v_new k⟩
/-- x in xs, ints -/
theorem inV_int (x : Int) (ns : List Int) : inV (.int x) (ns.map V.int) = decide (x ∈ ns) := by
  unfold inV
  rw [List.any_map]
  induction ns with
  | nil => rfl
  | cons a r ih =>
    rw [List.any_cons, ih]
    show ((a == x) || decide (x ∈ r)) = decide (x ∈ a :: r)
    by_cases h : x = a
    · subst h; simp
    · have : (a == x) = false := by simpa using fun e : a = x => h e.symm
      rw [this]; simp [h]
theorem flat_ints (ns : List Int) : (ns.map V.int).all flatV = true := by
  rw [List.all_map, List.all_eq_true]
  intro x _
  rfl
theorem v_in {l : Addr} {ns : List Int} (h : SqL K H l (ns.map V.int)) (k : Q (.bl (decide (a ∈ ns))) H) : rIn K false (.int a) (.ref l) H Q := ⟨l, _, rfl, .inl h, rfl, flat_ints ns, by rw [inV_int]; exact k⟩
theorem v_notIn {l : Addr} {ns : List Int} (h : SqL K H l (ns.map V.int)) (k : Q (.bl (!decide (a ∈ ns))) H) : rIn K true (.int a) (.ref l) H Q := ⟨l, _, rfl, .inl h, rfl, flat_ints ns, by rw [inV_int]; exact k⟩
/-- == of two lists of ints -/
theorem dp_ints {l : Addr} {ns : List Int} (h : SqL K H l (ns.map V.int)) : Dp K H (.ref l) (.list (ns.map PyData.int)) := by
  refine .lst h ?_
  clear h
  induction ns with
  | nil => exact .nil
  | cons a r ih => exact .cons (.int a) ih
theorem canLay_ints (ns : List Int) : PyData.canLayAll0 (ns.map PyData.int) = true := by
  induction ns with
  | nil => rfl
  | cons a r ih =>
    rw [List.map_cons]
    unfold PyData.canLayAll0
    rw [ih]
    rfl
theorem depth_ints (ns : List Int) : PyData.depthAll (ns.map PyData.int) = 0 := by
  induction ns with
  | nil => rfl
  | cons a r ih =>
    rw [List.map_cons]
    unfold PyData.depthAll
    rw [ih]
    rfl
theorem shaped_ints (ns : List Int) : SeqAt.shaped (.list (ns.map PyData.int)) = true := by
  unfold SeqAt.shaped PyData.canLay0 PyData.depth
  rw [canLay_ints, depth_ints]
  rfl
theorem eqvAll_ints : ∀ ns ms : List Int, PyData.eqvAll (ns.map PyData.int) (ms.map PyData.int) = decide (ns = ms)
  | [], [] => rfl
  | [], _ :: _ => rfl
  | _ :: _, [] => rfl
  | a :: r, b :: q => by
    rw [List.map_cons, List.map_cons]
    unfold PyData.eqvAll PyData.eqv
    rw [eqvAll_ints r q]
    by_cases h : a = b
    · subst h; simp
    · have : (a == b) = false := by simpa using h
      rw [this]; simp [h]
theorem eqv_ints (ns ms : List Int) : PyData.eqv (.list (ns.map PyData.int)) (.list (ms.map PyData.int)) = decide (ns = ms) := by
  unfold PyData.eqv
  exact eqvAll_ints ns ms
theorem v_eqL {l m : Addr} {ns ms : List Int} (h : SqL K H l (ns.map V.int)) (h' : SqL K H m (ms.map V.int)) (k : Q (.bl (decide (ns = ms))) H) : rEqD K (.ref l) (.ref m) H Q :=
  ⟨_, _, dp_ints h, dp_ints h', shaped_ints ns, shaped_ints ms, by rw [eqv_ints]; exact k⟩
theorem v_neL {l m : Addr} {ns ms : List Int} (h : SqL K H l (ns.map V.int)) (h' : SqL K H m (ms.map V.int)) (k : Q (.bl (!decide (ns = ms))) H) : rNeD K (.ref l) (.ref m) H Q :=
  ⟨_, _, dp_ints h, dp_ints h', shaped_ints ns, shaped_ints ms, by rw [eqv_ints]; exact k⟩
end

/-! ### loops over lists of ints, by what is left -/
def ForL (K : PySem.W.Frag) (g : TG) (tb : TS) (D : Ends) (σ : L2.St) (x : V) (H1 : Hp) : Prop := ∃ a, x = .ref a ∧ (∃ xs, SqL K H1 a xs) ∧ ∃ W : Nat → Nat → L2.St → Hp → Prop, (∃ m, W 0 m σ H1) ∧ ∀ i m σ H, W i m σ H →
  ((Itl K a).stop i H ∧ D.nx σ H) ∨ ((Itl K a).go i H ∧ ∃ N : L2.St → Hp → Prop, (∀ σ' H', N σ' H' → ∃ m', m' < m ∧ W (i + 1) m' σ' H') ∧ ∀ x H', (Itl K a).yld i H x H' → g x σ H' fun σ2 H2 => tb { D with nx := N, ct := N, bk := D.nx } σ2 H2)
section
variable {K : PySem.W.Frag} {σ : L2.St} {H : Hp} {tl : TE} {g : TG} {tb : TS} {D : Ends}
theorem w_for (k : tl σ H fun x H1 => ForL K g tb D σ x H1) : tFor (iList K tl) g tb D σ H := k
/-- over any list whose items are values of things -/
theorem v_forG {α : Type} {emb : α → V} {a : Addr} {ns : List α} (hS : SqL K H a (ns.map emb)) (Pv : List α → L2.St → Hp → Prop) (h0 : Pv ns σ H) (hP : ∀ r σ' H', Pv r σ' H' → SqL K H' a (ns.map emb))
    (hs : ∀ (pre : List α) n r σ' H', ns = pre ++ n :: r → Pv (n :: r) σ' H' → g (emb n) σ' H' fun σ2 H2 => tb { D with nx := Pv r, ct := Pv r, bk := D.nx } σ2 H2) (hd : ∀ σ' H', Pv [] σ' H' → D.nx σ' H') : ForL K g tb D σ (.ref a) H := by
  refine ⟨a, rfl, ⟨_, hS⟩, for_list (K := K) (a := a) (xs := ns.map emb) (fun i σ' H' => Pv (ns.drop i) σ' H') h0 (fun i σ' H' _ p => hP _ _ _ p) ?_ ?_⟩
  · intro i x σ' H' hx p
    rw [List.getElem?_map] at hx
    cases hn : ns[i]? with
    | none => rw [hn] at hx; cases hx
    | some n =>
      rw [hn] at hx
      have hx' : x = emb n := (Option.some.inj hx).symm
      subst hx'
      have hi : i < ns.length := (List.getElem?_eq_some_iff.mp hn).1
      have hv : ns[i] = n := (List.getElem?_eq_some_iff.mp hn).2
      have e : ns.drop i = n :: ns.drop (i + 1) := by rw [← hv]; exact List.drop_eq_getElem_cons hi
      rw [e] at p
      exact hs (ns.take i) n (ns.drop (i + 1)) σ' H' (by rw [← e, List.take_append_drop]) p
  · intro σ' H' p
    rw [List.length_map, List.drop_length] at p
    exact hd σ' H' p
theorem v_forI {a : Addr} {j : Nat} {ns : List Int} (hS : SqL K H a (ns.map V.int)) (Pv : List Int → L2.St → Hp → Prop) (h0 : Pv ns σ H) (hP : ∀ r σ' H', Pv r σ' H' → SqL K H' a (ns.map V.int))
    (hs : ∀ (pre : List Int) n r σ' H', ns = pre ++ n :: r → Pv (n :: r) σ' H' → tb { D with nx := Pv r, ct := Pv r, bk := D.nx } (σ'.set j (some (.int n))) H') (hd : ∀ σ' H', Pv [] σ' H' → D.nx σ' H') : ForL K (gName j) tb D σ (.ref a) H :=
  v_forG hS Pv h0 hP hs hd
end
/-! ### comprehensions -/
def LcL (K : PySem.W.Frag) (g : TG) (tt : TT) (te : TE) (vs : List Nat) (σ : L2.St) (Q : VK) (x : V) (H1 : Hp) : Prop := ∃ a, x = .ref a ∧ (∃ xs, SqL K H1 a xs) ∧ ∀ D, H1 D = none → ∃ W : Nat → Nat → Hp → Prop, (∃ m, W 0 m (upd H1 D (.lst []))) ∧ ∀ i m H, W i m H →
  ((Itl K a).stop i H ∧ Q (.ref D) H) ∨ ((Itl K a).go i H ∧ ∃ Nx : Hp → Prop, (∀ H', Nx H' → ∃ m', m' < m ∧ W (i + 1) m' H') ∧ ∀ x H', (Itl K a).yld i H x H' → g x (wipe σ vs) H' fun σ2 H2 => wipe σ2 vs = wipe σ vs ∧ tt σ2 H2 fun b H3 =>
    if b = true then te σ2 H3 fun y H4 => ∃ acc, H4 D = some (.lst acc) ∧ acc.length < sizeLine ∧ Nx (upd H4 D (.lst (acc ++ [y]))) else Nx H3)
section
variable {K : PySem.W.Frag} {σ : L2.St} {H : Hp} {Q : VK} {tl te : TE} {tt : TT} {g : TG} {vs : List Nat}
theorem w_lc (k : tl σ H fun x H1 => LcL K g tt te vs σ Q x H1) : tLc (iList K tl) g tt te vs σ H Q := k
theorem filter_take {α : Type} {ns : List α} {i : Nat} {n : α} (p : α → Bool) (h : ns[i]? = some n) : (ns.take (i + 1)).filter p = (ns.take i).filter p ++ if p n = true then [n] else [] := by
  rw [List.take_add_one, h, List.filter_append]
  congr 1
  show List.filter p [n] = _
  cases c : p n with
  | true => simp [c]
  | false => simp [c]
/-- [f x for x in xs if p x]: each turn's parts leave what stands and may make things -/
theorem v_lcG {α : Type} {emb : α → V} {a : Addr} {ns : List α} {σ2 : α → L2.St} {H0 : Hp} (p : α → Bool) (f : α → V) (hS : SqL K H a (ns.map emb)) (hz : ns.length ≤ 16777215)
    (hg : ∀ n H' (R : L2.St → Hp → Prop), n ∈ ns → Same H H' → (∀ H2, Same H' H2 → R (σ2 n) H2) → g (emb n) (wipe σ vs) H' R) (hw : ∀ n ∈ ns, wipe (σ2 n) vs = wipe σ vs)
    (ht : ∀ n H', n ∈ ns → Same H H' → ∀ R : Bool → Hp → Prop, (∀ H2, Same H' H2 → R (p n) H2) → tt (σ2 n) H' R)
    (he : ∀ n H', n ∈ ns → p n = true → Same H H' → ∀ R : VK, (∀ H2, Same H' H2 → R (f n) H2) → te (σ2 n) H' R)
    (k : ∀ D H2, H D = none → Same H H2 → H2 D = some (.lst ((ns.filter p).map f)) → Q (.ref D) H2) : LcL K g tt te vs σ Q (.ref a) H := by
  refine ⟨a, rfl, ⟨_, hS⟩, fun D hD => lc_list (K := K) (a := a) (xs := ns.map emb) (fun i H' => Same H H' ∧ H' D = some (.lst (((ns.take i).filter p).map f))) ⟨same_up hD, upd_same⟩ (fun i H' _ h => h.1.seq hS) ?_ ?_⟩
  · intro i x H' hx ⟨s1, d1⟩
    rw [List.getElem?_map] at hx
    cases hn : ns[i]? with
    | none => rw [hn] at hx; cases hx
    | some n =>
      rw [hn] at hx
      have hx' : x = emb n := (Option.some.inj hx).symm
      subst hx'
      have hi : i < ns.length := (List.getElem?_eq_some_iff.mp hn).1
      have hm : n ∈ ns := List.mem_of_getElem? hn
      have hl : (((ns.take i).filter p).map f).length < sizeLine := by
        refine fits_lt ?_
        rw [List.length_map]
        refine Nat.le_trans (List.length_filter_le _ _) ?_
        rw [List.length_take]
        omega
      refine hg n H' _ hm s1 fun H2 s2 => ⟨hw n hm, ?_⟩
      refine ht n H2 hm (s1.trans s2) _ fun H3 s3 => ?_
      have ft := filter_take p hn
      cases c : p n with
      | true =>
        rw [if_pos rfl]
        refine he n H3 hm c ((s1.trans s2).trans s3) _ fun H4 s4 => ?_
        rw [c, if_pos rfl] at ft
        refine ⟨_, s4 _ _ (s3 _ _ (s2 _ _ d1)), hl, same_mut (((s1.trans s2).trans s3).trans s4) hD, ?_⟩
        rw [upd_same, ft, List.map_append]
        rfl
      | false =>
        rw [if_neg Bool.false_ne_true]
        rw [c, if_neg Bool.false_ne_true, List.append_nil] at ft
        exact ⟨(s1.trans s2).trans s3, by rw [ft]; exact s3 _ _ (s2 _ _ d1)⟩
  · intro H' ⟨s1, d1⟩
    rw [List.length_map, List.take_length] at d1
    exact k D H' hD s1 d1
/-- over ints, the target a name -/
theorem v_lcI {a : Addr} {j : Nat} {ns : List Int} {σ2 : Int → L2.St} (p : Int → Bool) (f : Int → V) (hS : SqL K H a (ns.map V.int)) (hz : ns.length ≤ 16777215) (hσ : ∀ n, (wipe σ vs).set j (some (.int n)) = σ2 n) (hw : ∀ n ∈ ns, wipe (σ2 n) vs = wipe σ vs)
    (ht : ∀ n H', n ∈ ns → Same H H' → ∀ R : Bool → Hp → Prop, (∀ H2, Same H' H2 → R (p n) H2) → tt (σ2 n) H' R)
    (he : ∀ n H', n ∈ ns → p n = true → Same H H' → ∀ R : VK, (∀ H2, Same H' H2 → R (f n) H2) → te (σ2 n) H' R)
    (k : ∀ D H2, H D = none → Same H H2 → H2 D = some (.lst ((ns.filter p).map f)) → Q (.ref D) H2) : LcL K (gName j) tt te vs σ Q (.ref a) H :=
  v_lcG (σ2 := σ2) (H0 := H) p f hS hz (fun n H' R _ _ h => by
    show R ((wipe σ vs).set j (some (.int n))) H'
    rw [hσ]
    exact h H' (Same.refl _)) hw ht he k
theorem t_yes {H' : Hp} {R : Bool → Hp → Prop} {σ' : L2.St} (h : ∀ H2, Same H' H2 → R true H2) : tYes σ' H' R := h H' (Same.refl _)
theorem filter_yes {α : Type} (ns : List α) : ns.filter (fun _ => true) = ns := List.filter_eq_self.mpr fun _ _ => rfl
end
/-! ### defs, methods, makers by one thing each -/
structure At (K : PySem.W.Frag) (mg : Str → Option Value) (x : Str) (st : Stmt) (ps : List Str) (f : Addr) (fd : FuncData) : Prop where
  g : mg x = some (.ref f)
  F : Fun K x x st f fd
  b : Binds K fd ps []
structure FnAt (P : Program) (w : World) (K : PySem.W.Frag) (mg : Str → Option Value) (base : Heap) (CX : CXT) (k : Nat) (x : Str) (ps : List Str) (sp : Sp) (f : Addr) (fd : FuncData) : Prop where
  g : mg x = some (.ref f)
  kp : PySem.W.keepIn K (.ref f) = true
  b : Binds K fd ps []
  ok : FnOk P w K mg base CX k f fd ps sp
structure AtM (K : PySem.W.Frag) (C : Addr) (m q : Str) (st : Stmt) (ps : List Str) (f : Addr) (fd : FuncData) : Prop where
  me : Meth K C m f
  F : Fun K m q st f fd
  b : Binds K fd ps []
structure MtAt (P : Program) (w : World) (K : PySem.W.Frag) (mg : Str → Option Value) (base : Heap) (CX : CXT) (k : Nat) (C : Addr) (m : Str) (ps : List Str) (sp : Sp) (f : Addr) (fd : FuncData) : Prop where
  me : Meth K C m f
  b : Binds K fd ps []
  ok : FnOk P w K mg base CX k f fd ps sp
structure AtI (K : PySem.W.Frag) (mg : Str → Option Value) (C : Addr) (x q : Str) (st : Stmt) (ps : List Str) (f : Addr) (fd : FuncData) : Prop where
  g : mg x = some (.ref C)
  m : Mk K C f
  F : Fun K "__init__" q st f fd
  b : Binds K fd ps []
structure InAt (P : Program) (w : World) (K : PySem.W.Frag) (mg : Str → Option Value) (base : Heap) (CX : CXT) (k : Nat) (C : Addr) (x : Str) (ps : List Str) (sp : Sp) (f : Addr) (fd : FuncData) : Prop where
  g : mg x = some (.ref C)
  m : Mk K C f
  b : Binds K fd ps []
  ok : FnOk P w K mg base CX k f fd ps sp
/-- a class made without an __init__ of its own -/
structure Mk0 (K : PySem.W.Frag) (mg : Str → Option Value) (C : Addr) (x : Str) : Prop where
  g : mg x = some (.ref C)
  makes : PySem.W.makesIn K C = true
  init : PySem.W.findIn K (.ref C) "__init__" = some (some (.builtin "object.__init__"))
  kp : PySem.W.keepIn K (.ref C) = true
section
variable {X : Cx} {C : Addr} {x : Str} {p pos : PySem.Pos}
theorem run_make00 {pins : List (Addr × Obj)} {σ : L2.St} {H : Hp} {s : Shared} {Q : VK} (hm : PySem.W.makesIn X.K C = true) (hi : PySem.W.findIn X.K (.ref C) "__init__" = some (some (.builtin "object.__init__"))) (I : Inv X pins σ H s)
    (h : ∀ x dx, H x = none → H dx = none → dx ≠ x → Q (.ref x) (upd (upd H dx (.own x)) x (.ins C dx []))) : wpAny (model X.prog X.w) X.A (call (.ref C) []) (EP X pins σ Q) X.xe s := by
  have hq := h (s.heap.objs.size + 1) s.heap.objs.size (I.hok.fresh (Nat.le_succ _)) (I.hok.fresh (Nat.le_refl _)) (Nat.ne_of_lt (Nat.lt_succ_self _))
  have I2 := Inv.made (C := C) I
  have KI := I.kIn
  obtain ⟨hh, g, d, t, os⟩ := s
  have Y := PySem.W.makes_of (M := model X.prog X.w) KI hm
  refine wpAny_call (make_map0 KI hm hi (fun self => PySem.W.Looks.of_pure (PySem.W.oi_bind self)) ?_)
  have o1 : ((hh.push PySem.W.emptyDict).push (PySem.W.instObj C hh.objs.size)).get? (hh.objs.size + 1) = some (PySem.W.instObj C hh.objs.size) := by heap_get
  have t1 : PySem.W.Looks (model X.prog X.w) ((hh.push PySem.W.emptyDict).push (PySem.W.instObj C hh.objs.size)) (typeOf (.ref (hh.objs.size + 1))) (.ref C) := (PySem.W.Looks.ld o1).andThen .now
  have t2 : PySem.W.Looks (model X.prog X.w) ((hh.push PySem.W.emptyDict).push (PySem.W.instObj C hh.objs.size)) (isInstance (.ref (hh.objs.size + 1)) (.type "object")) true := t1.andThen (Y.top.keeps fun b o e => Heap.get?_push_of_some _ (Heap.get?_push_of_some _ e))
  refine codeAny_call_builtin PySem.W.oi_plain PySem.W.entry_oi (@PySem.W.check_slot (model X.prog X.w) _ _ _ "object.__init__" "object" "__init__" (.ref (hh.objs.size + 1)) [] [] _ PySem.W.oi_kind PySem.W.oi_split t2 (PySem.W.oi_args (.ref (hh.objs.size + 1))) ?_)
  rw [PySem.W.oi_run]
  exact wpAny_pure (And.intro rfl ⟨V.ref (hh.objs.size + 1), _, I2, rfl, hq⟩)
def tMake00 (C : Addr) : TE := fun _ H Q => ∀ x dx, H x = none → H dx = none → dx ≠ x → Q (.ref x) (upd (upd H dx (.own x)) x (.ins C dx []))
theorem pe_make00 (M : Mk0 X.K X.mg C x) (hg : Gl X x) (hdb : (x == ("__debug__" : Str)) = false := by decide) : PE X (.Call (.Name x p) [] [] pos) (tMake00 C) := by
  refine ⟨fun pins s σ H Q I h => ?_⟩
  refine wpAny_Call_Name_kw (ld_glob I hg M.g ?_ hdb)
  exact PySem.W.callWith_K0 I.kIn M.kp (run_make00 M.makes M.init I h)
/-- either of two readings -/
def tOr2 (t u : TE) : TE := fun σ H Q => t σ H Q ∨ u σ H Q
theorem pe_or2 {e : Expr} {t u : TE} (h : PE X e t) (k : PE X e u) : PE X e (tOr2 t u) := ⟨fun pins s σ H Q I z => z.elim (h.run pins s σ H Q I) (k.run pins s σ H Q I)⟩
end
theorem w_make00 {C : Addr} {σ : L2.St} {H : Hp} {Q : VK} (k : ∀ p dx H2, H p = none → Same H H2 → H2 p = some (.ins C dx []) → Q (.ref p) H2) : tMake00 C σ H Q := fun x dx hx hd ne =>
  k x dx _ hx (fun b o e => by rw [upd_ne (ne_of_none e hx), upd_ne (ne_of_none e hd)]; exact e) upd_same
/-- a new instance and its __init__ -/
theorem v_make {C : Addr} {vs : List V} {H : Hp} {Q : VK} {sp : Sp} {E : XK}
    (h : ∀ p dx H1, H p = none → Same H H1 → H1 p = some (.ins C dx []) → (∀ b, H1 b = none → H b = none) → sp (.ref p :: vs) H1 (fun v H2 => v = .non ∧ Q (.ref p) H2) E) :
    MkO C sp E Q vs H := fun x dx hx hd ne => by
  have s : Same H (upd (upd H dx (.own x)) x (.ins C dx [])) := fun b o e => by rw [upd_ne (ne_of_none e hx), upd_ne (ne_of_none e hd)]; exact e
  exact h x dx _ hx s upd_same fun b hb => s.free hb
/-! ### answers -/
/-- the value v, all that stood as it stood -/
def Ret (v : V) (H : Hp) (Q : VK) : Prop := ∀ H2, Same H H2 → Q v H2
/-- a new list of ints -/
def RetL (ns : List Int) (H : Hp) (Q : VK) : Prop := ∀ p H2, H p = none → Same H H2 → H2 p = some (.lst (ns.map V.int)) → Q (.ref p) H2
theorem Ret.go {v : V} {H H' : Hp} {Q : VK} (k : Ret v H Q) (e : Same H H') : Q v H' := k H' e
theorem Ret.goL {ns : List Int} {H H' H2 : Hp} {Q : VK} {p : Addr} (k : RetL ns H Q) (e : Same H H') (hp : H' p = none) (e2 : Same H' H2) (h : H2 p = some (.lst (ns.map V.int))) : Q (.ref p) H2 := k p H2 (e.free hp) (e.trans e2) h
/-! ### built-in names -/
theorem bt_len : bootBuiltins "len" = some (.builtin "len") := by decide +kernel
theorem bt_sum : bootBuiltins "sum" = some (.builtin "sum") := by decide +kernel
theorem bt_all : bootBuiltins "all" = some (.builtin "all") := by decide +kernel
theorem bt_any : bootBuiltins "any" = some (.builtin "any") := by decide +kernel
theorem bt_abs : bootBuiltins "abs" = some (.builtin "abs") := by decide +kernel
theorem bt_sorted : bootBuiltins "sorted" = some (.builtin "sorted") := by decide +kernel
theorem bt_isinstance : bootBuiltins "isinstance" = some (.builtin "isinstance") := by decide +kernel
theorem bt_int : bootBuiltins "int" = some (.type "int") := by decide +kernel
theorem bt_bool : bootBuiltins "bool" = some (.type "bool") := by decide +kernel
theorem bt_str : bootBuiltins "str" = some (.type "str") := by decide +kernel
theorem bt_list : bootBuiltins "list" = some (.type "list") := by decide +kernel
theorem bt_tuple : bootBuiltins "tuple" = some (.type "tuple") := by decide +kernel
theorem bt_set : bootBuiltins "set" = some (.type "set") := by decide +kernel
/-! ### isinstance -/
theorem v_isi {K : PySem.W.Frag} {H : Hp} {Q : VK} {x cl : V} {t u : Value} {b : Bool} (hc : ClsV cl u) (ht : TyX K H x t) (hk : PySem.W.kitOne K t u = some b) (k : Q (.bl b) H) : rIsi K [x, cl] H Q := ⟨x, cl, t, u, b, rfl, hc, ht, hk, k⟩
theorem tyx_list {K : PySem.W.Frag} {H : Hp} {a : Addr} {xs : List V} (h : SqL K H a xs) : TyX K H (.ref a) (.type "list") := by
  rcases h with (h | ⟨o, h⟩) | ⟨o, its, n, h1, h2, _⟩
  · exact .base (.lst h)
  · exact .base (.frz h)
  · exact .kList h1 h2
/-- what is known of a thing that is asked about -/
def Okd (K : PySem.W.Frag) (H : Hp) : V → Prop
  | .non => True
  | .bl _ => True
  | .int _ => True
  | .str _ => True
  | .ref a => ∃ n, TyX K H (.ref a) (.type n) ∧ (n = "list" ∨ n = "tuple" ∨ n = "dict")
  | _ => False
def isNum (x : V) (l : Int) : Bool := match x with
  | .int i => decide (l ≤ i)
  | _ => false
def isI : V → Bool
  | .int _ => true
  | .bl _ => true
  | _ => false
def isB : V → Bool
  | .bl _ => true
  | _ => false
def isI0 : V → Bool
  | .int _ => true
  | _ => false
theorem kb_bi : kitB "bool" "int" = some true := by decide +kernel
theorem kb_ii : kitB "int" "int" = some true := by decide +kernel
theorem kb_si : kitB "str" "int" = some false := by decide +kernel
theorem kb_bb : kitB "bool" "bool" = some true := by decide +kernel
theorem kb_ib : kitB "int" "bool" = some false := by decide +kernel
theorem kb_sb : kitB "str" "bool" = some false := by decide +kernel
theorem v_isInt {K : PySem.W.Frag} {H : Hp} {Q : VK} {x : V} (h : Okd K H x) (k : Q (.bl (isI x)) H) : rIsi K [x, .ty "int"] H Q := by
  cases x with
  | non => exact v_isi (.ty _) (.base .non) (kit_ty (by decide +kernel)) k
  | bl b => exact v_isi (.ty _) (.base (.bl b)) (kit_ty kb_bi) k
  | int i => exact v_isi (.ty _) (.base (.int i)) (kit_ty kb_ii) k
  | str z => exact v_isi (.ty _) (.base (.str z)) (kit_ty kb_si) k
  | ref a =>
    obtain ⟨n, ht, hn⟩ := h
    refine v_isi (.ty _) ht (kit_ty (r := false) ?_) k
    rcases hn with rfl | rfl | rfl <;> decide +kernel
  | byt _ => exact h.elim
  | flt _ => exact h.elim
  | ty _ => exact h.elim
theorem v_isBool {K : PySem.W.Frag} {H : Hp} {Q : VK} {x : V} (h : Okd K H x) (k : Q (.bl (isB x)) H) : rIsi K [x, .ty "bool"] H Q := by
  cases x with
  | non => exact v_isi (.ty _) (.base .non) (kit_ty (by decide +kernel)) k
  | bl b => exact v_isi (.ty _) (.base (.bl b)) (kit_ty kb_bb) k
  | int i => exact v_isi (.ty _) (.base (.int i)) (kit_ty kb_ib) k
  | str z => exact v_isi (.ty _) (.base (.str z)) (kit_ty kb_sb) k
  | ref a =>
    obtain ⟨n, ht, hn⟩ := h
    refine v_isi (.ty _) ht (kit_ty (r := false) ?_) k
    rcases hn with rfl | rfl | rfl <;> decide +kernel
  | byt _ => exact h.elim
  | flt _ => exact h.elim
  | ty _ => exact h.elim
/-! ### more -/
theorem kb_ll : kitB "list" "list" = some true := by decide +kernel
theorem lk1 {f : Str} {v : V} : List.lookup f [(f, v)] = some v := by simp [List.lookup]
theorem lk2a {f g : Str} {v u : V} : List.lookup f [(f, v), (g, u)] = some v := by simp [List.lookup]
theorem lk2b {f g : Str} {v u : V} (h : ¬ g = f) : List.lookup g [(f, v), (g, u)] = some u := by
  have e : (g == f) = false := by simpa using h
  simp [List.lookup, e]
theorem lk1n {f g : Str} {v : V} (h : ¬ g = f) : List.lookup g [(f, v)] = none := by
  have e : (g == f) = false := by simpa using h
  simp [List.lookup, e]
theorem lk2n {f g m : Str} {v u : V} (h : ¬ m = f) (h' : ¬ m = g) : List.lookup m [(f, v), (g, u)] = none := by
  have e : (m == f) = false := by simpa using h
  have e' : (m == g) = false := by simpa using h'
  simp [List.lookup, e, e']
theorem all_map (ns : List Int) (p : Int → Bool) : (ns.map p).all id = ns.all p := by
  rw [List.all_map]
  rfl
theorem any_map (ns : List Int) (p : Int → Bool) : (ns.map p).any id = ns.any p := by
  rw [List.any_map]
  rfl
theorem map_bl {α : Type} (ns : List α) (p : α → Bool) : ns.map (fun n => V.bl (p n)) = (ns.map p).map V.bl := by
  rw [List.map_map]
  rfl
theorem map_int {α : Type} (ns : List α) (p : α → Int) : ns.map (fun n => V.int (p n)) = (ns.map p).map V.int := by
  rw [List.map_map]
  rfl
theorem at_get {ns : List Int} {j : Int} (h0 : 0 ≤ j) (h1 : j < ns.length) : atI (ns.map V.int) j = some (.int (ns.getD j.toNat 0)) := by
  obtain ⟨i, rfl⟩ := Int.eq_ofNat_of_zero_le h0
  have hi : i < ns.length := by omega
  refine atI_nat ?_
  rw [List.getElem?_map, List.getElem?_eq_getElem hi, Int.toNat_natCast, List.getD_eq_getElem?_getD, List.getElem?_eq_getElem hi]
  rfl
theorem getD_mem {ns : List Int} {j : Nat} (h1 : j < ns.length) : ns.getD j 0 ∈ ns := by
  rw [List.getD_eq_getElem?_getD, List.getElem?_eq_getElem h1]
  exact List.getElem_mem h1
section
variable {K : PySem.W.Frag} {σ : L2.St} {H : Hp} {Q : VK} {ta te : TE} {tr : TA} {tt : TT} {g : TG} {vs : List Nat} {D : Ends} {tb : TS}
theorem v_app {l : Addr} {xs : List V} {v : V} (hl : H l = some (.lst xs)) (hz : xs.length ≤ 16777214) (k : Q .non (upd H l (.lst (xs ++ [v])))) : rAppend (.ref l) [v] H Q := ⟨l, xs, v, rfl, rfl, hl, fits_lt (by omega), k⟩
theorem v_ty {l : Addr} {xs : List V} {P : Prop} (h : SqL K H l xs) (k : P) : tyV K "list" (.ref l) H ∧ P := ⟨.inl ⟨rfl, _, h⟩, k⟩
/-- [f i for i in range(n)] -/
def LcR (g : TG) (tt : TT) (te : TE) (vs : List Nat) (σ : L2.St) (Q : VK) (ws : List V) (H1 : Hp) : Prop := ∃ j : Int, ws = [.int j] ∧ -(2 ^ 62) ≤ j ∧ j < 2 ^ 62 ∧ ∀ D, H1 D = none → ∃ W : Nat → Nat → Hp → Prop, (∃ m, W 0 m (upd H1 D (.lst []))) ∧ ∀ i m H, W i m H →
  ((Itr 0 j.toNat).stop i H ∧ Q (.ref D) H) ∨ ((Itr 0 j.toNat).go i H ∧ ∃ Nx : Hp → Prop, (∀ H', Nx H' → ∃ m', m' < m ∧ W (i + 1) m' H') ∧ ∀ x H', (Itr 0 j.toNat).yld i H x H' → g x (wipe σ vs) H' fun σ2 H2 => wipe σ2 vs = wipe σ vs ∧ tt σ2 H2 fun b H3 =>
    if b = true then te σ2 H3 fun y H4 => ∃ acc, H4 D = some (.lst acc) ∧ acc.length < sizeLine ∧ Nx (upd H4 D (.lst (acc ++ [y]))) else Nx H3)
theorem w_lcR (k : tr σ H fun x H1 => LcR g tt te vs σ Q x H1) : tLc (iRng1 tr) g tt te vs σ H Q := k
theorem v_lcR {j : Nat} {n : Int} {σ2 : Nat → L2.St} (p : Nat → Bool) (f : Nat → V) (hz : n ≤ 16777215) (h0 : 0 ≤ n) (hσ : ∀ i : Nat, (wipe σ vs).set j (some (.int (i : Int))) = σ2 i) (hw : ∀ i, wipe (σ2 i) vs = wipe σ vs)
    (ht : ∀ (i : Nat) (H' : Hp), (i : Int) < n → Same H H' → ∀ R : Bool → Hp → Prop, (∀ H2, Same H' H2 → R (p i) H2) → tt (σ2 i) H' R)
    (he : ∀ (i : Nat) (H' : Hp), (i : Int) < n → p i = true → Same H H' → ∀ R : VK, (∀ H2, Same H' H2 → R (f i) H2) → te (σ2 i) H' R)
    (k : ∀ D H2, H D = none → Same H H2 → H2 D = some (.lst (((List.range n.toNat).filter p).map f)) → Q (.ref D) H2) : LcR (gName j) tt te vs σ Q [.int n] H := by
  refine ⟨n, rfl, by omega, by omega, fun D hD => lc_range (lo := 0) (n := n.toNat) (fun i H' => Same H H' ∧ H' D = some (.lst (((List.range i).filter p).map f))) ⟨same_up hD, upd_same⟩ ?_ ?_⟩
  · intro i H' hi ⟨s1, d1⟩
    have hl : (((List.range i).filter p).map f).length < sizeLine := by
      refine fits_lt ?_
      rw [List.length_map]
      refine Nat.le_trans (List.length_filter_le _ _) ?_
      rw [List.length_range]
      omega
    have ez : (0 : Int) + (i : Int) = (i : Int) := by omega
    show wipe ((wipe σ vs).set j (some (.int ((0 : Int) + (i : Int))))) vs = wipe σ vs ∧ tt ((wipe σ vs).set j (some (.int ((0 : Int) + (i : Int))))) H' _
    rw [ez, hσ i]
    refine ⟨hw i, ?_⟩
    have hin : (i : Int) < n := by omega
    refine ht i H' hin s1 _ fun H3 s3 => ?_
    have er : (List.range (i + 1)).filter p = (List.range i).filter p ++ if p i = true then [i] else [] := by
      rw [List.range_succ, List.filter_append]
      congr 1
      cases c : p i with
      | true => simp [c]
      | false => simp [c]
    cases c : p i with
    | true =>
      rw [if_pos rfl]
      refine he i H3 hin c (s1.trans s3) _ fun H4 s4 => ?_
      rw [c, if_pos rfl] at er
      refine ⟨_, s4 _ _ (s3 _ _ d1), hl, same_mut ((s1.trans s3).trans s4) hD, ?_⟩
      rw [upd_same, er, List.map_append]
      rfl
    | false =>
      rw [if_neg Bool.false_ne_true]
      rw [c, if_neg Bool.false_ne_true, List.append_nil] at er
      exact ⟨s1.trans s3, by rw [er]; exact s3 _ _ d1⟩
  · intro H' ⟨s1, d1⟩
    exact k D H' hD s1 d1
end
theorem w_cut {t u : TS} {D : Ends} {σ : L2.St} {H : Hp} (M : L2.St → Hp → Prop) (h : t { D with nx := M } σ H) (k : ∀ σ' H', M σ' H' → u D σ' H') : Evl.tCut t u D σ H := ⟨M, h, k⟩
theorem g_pair {K : PySem.W.Frag} {i j : Nat} {t : Addr} {x y : V} {σ : L2.St} {H : Hp} {Q : L2.St → Hp → Prop} (h : SqT K H t [x, y]) (k : Q ((σ.set i (some x)).set j (some y)) H) : gTup K 2 (gCons (gName i) (gCons (gName j) gNil)) (.ref t) σ H Q :=
  ⟨t, [x, y], rfl, h, rfl, x, [y], rfl, y, [], rfl, rfl, k⟩
/-! ### sizes of the script -/
def AA : Nat := 1048576
def BB : Nat := 1048582
theorem nat_lt_bits {z : Int} (h : Builtin.Int.intBits z ≤ AA) : z.natAbs < 2 ^ AA := by
  by_cases c : z.natAbs = 0
  · rw [c]
    exact Nat.two_pow_pos _
  · unfold Builtin.Int.intBits at h
    have hz : (z == 0) = false := by simpa using fun e : z = 0 => c (by rw [e]; rfl)
    rw [hz] at h
    have h' : z.natAbs.log2 + 1 ≤ AA := h
    exact (Nat.log2_lt c).mp (by omega)
theorem sum_abs {A : Nat} : ∀ {ns : List Int}, (∀ z ∈ ns, z.natAbs < 2 ^ A) → ns.sum.natAbs ≤ ns.length * 2 ^ A
  | [], _ => by simp
  | a :: r, h => by
    have h1 := h a List.mem_cons_self
    have h2 := sum_abs (ns := r) fun z hz => h z (List.mem_cons_of_mem _ hz)
    rw [List.sum_cons, List.length_cons, Nat.add_mul, Nat.one_mul]
    have := Int.natAbs_add_le a r.sum
    omega
theorem sum_bits {ns : List Int} (hl : ns.length ≤ 63) (h : ∀ z ∈ ns, Builtin.Int.intBits z ≤ AA) : ns.sum.natAbs < 2 ^ BB := by
  have h1 := sum_abs (A := AA) fun z hz => nat_lt_bits (h z hz)
  have e : 2 ^ BB = 2 ^ AA * 64 := by
    show 2 ^ (AA + 6) = _
    rw [Nat.pow_add]
  have h2 : ns.length * 2 ^ AA ≤ 63 * 2 ^ AA := Nat.mul_le_mul_right _ hl
  have h3 := Nat.two_pow_pos AA
  rw [e]
  omega
theorem sq_mul {i : Int} (h : i.natAbs < 2 ^ BB) : CMulX i i := mulx_ok h h (by decide)
theorem kit_of {K : PySem.W.Frag} {C D : Addr} {b : Bool} (h1 : PySem.W.isClsIn K D = true) (h2 : PySem.W.typeIn K (.ref D) = some (.type "type")) (h3 : PySem.W.subIn K (.ref C) (.ref D) = some b) (h4 : PySem.W.subIn K (.ref D) (.ref D) = some true) : PySem.W.kitOne K (.ref C) (.ref D) = some b := by
  unfold PySem.W.kitOne
  by_cases e : (Value.ref C == Value.ref D) = true
  · rw [if_pos e]
    have e' : Value.ref C = Value.ref D := beq_iff_eq.mp e
    rw [e'] at h3
    exact h4.symm.trans h3
  · rw [if_neg e]
    unfold PySem.W.kitCls
    have h1' : (PySem.W.clsIn K D).isSome = true := h1
    show (if ((PySem.W.clsIn K D).isSome && PySem.W.typeIn K (.ref D) == some (.type "type")) = true then PySem.W.subIn K (.ref C) (.ref D) else none) = some b
    rw [h1', h2]
    exact (if_pos (by rfl)).trans h3
/-! ### slices in the middle, while, fields -/
theorem cut_mid {α : Type} (f : α → V) (ns : List α) {i j : Int} (h : 0 ≤ i) (h2 : i ≤ j) : cutV (ns.map f) (some i) (some j) = ((ns.drop i.toNat).take (j.toNat - i.toNat)).map f := by
  obtain ⟨a, rfl⟩ := Int.eq_ofNat_of_zero_le h
  obtain ⟨b, rfl⟩ := Int.eq_ofNat_of_zero_le (Int.le_trans h h2)
  unfold cutV
  rw [show HT.sIx (ns.map f).length 0 (some ((a : Nat) : Int)) = min a (ns.map f).length from HT.sIx_nat _ _ _, show HT.sIx (ns.map f).length (ns.map f).length (some ((b : Nat) : Int)) = min b (ns.map f).length from HT.sIx_nat _ _ _, Int.toNat_natCast, Int.toNat_natCast, List.length_map, ← List.map_drop, ← List.map_take]
  congr 1
  by_cases c : a ≤ ns.length
  · rw [Nat.min_eq_left c]
    by_cases d : b ≤ ns.length
    · rw [Nat.min_eq_left d]
    · rw [Nat.min_eq_right (by omega), List.take_of_length_le (by rw [List.length_drop]; omega), List.take_of_length_le (by rw [List.length_drop]; omega)]
  · rw [Nat.min_eq_right (show ns.length ≤ a by omega), List.drop_of_length_le (Nat.le_refl _), List.drop_of_length_le (show ns.length ≤ a by omega), List.take_nil, List.take_nil]
section
variable {K : PySem.W.Frag} {σ : L2.St} {H : Hp} {Q : VK} {a b : Int} {t : TT} {tb : TS} {D : Ends}
theorem v_sliceM {l : Addr} {ns : List Int} (h : SqL K H l (ns.map V.int)) (ha : 0 ≤ a) (hb : a ≤ b) (k : ∀ p H2, H p = none → Same H H2 → H2 p = some (.lst (((ns.drop a.toNat).take (b.toNat - a.toNat)).map V.int)) → Q (.ref p) H2) : rSlL K (.ref l) (some a) (some b) H Q :=
  v_slice h fun p H2 h1 h2 h3 => k p H2 h1 h2 (by rw [← cut_mid V.int ns ha hb]; exact h3)
theorem w_while (Pv : Nat → L2.St → Hp → Prop) (m0 : Nat) (h0 : Pv m0 σ H)
    (hs : ∀ m σ' H', Pv m σ' H' → t σ' H' fun b H1 => if b = true then ∃ N : L2.St → Hp → Prop, (∀ σ2 H2, N σ2 H2 → ∃ m', m' < m ∧ Pv m' σ2 H2) ∧ tb { D with nx := N, ct := N, bk := D.nx } σ' H1 else D.nx σ' H1) : tWhile t tb D σ H := ⟨Pv, ⟨m0, h0⟩, hs⟩
theorem v_turn {Pv : Nat → L2.St → Hp → Prop} {m : Nat} (k : tb { D with nx := fun σ2 H2 => ∃ m', m' < m ∧ Pv m' σ2 H2, ct := fun σ2 H2 => ∃ m', m' < m ∧ Pv m' σ2 H2, bk := D.nx } σ H) :
    ∃ N : L2.St → Hp → Prop, (∀ σ2 H2, N σ2 H2 → ∃ m', m' < m ∧ Pv m' σ2 H2) ∧ tb { D with nx := N, ct := N, bk := D.nx } σ H := ⟨_, fun _ _ h => h, k⟩
end
/-- the fields of an instance, set one by one -/
theorem putF_two {f g : Str} {v u : V} (h : ¬ f = g) : putF g u (putF f v []) = [(f, v), (g, u)] := by
  show (if f = g then (f, u) :: [] else (f, v) :: putF g u []) = _
  rw [if_neg h]
  rfl
theorem drop_take_one {ns : List Int} {i : Nat} {m : Int} : decide ((ns.drop i).take 1 = [m]) = decide ((ns.drop i).head? = some m) := by
  cases ns.drop i with
  | nil => simp
  | cons a r => simp
theorem v_pop0 {l : Addr} {y : V} {r : List V} {H : Hp} {Q : VK} (hl : H l = some (.lst (y :: r))) (k : Q y (upd H l (.lst r))) : rPopAt (.ref l) [.int 0] H Q :=
  ⟨l, y :: r, 0, 0, y, rfl, rfl, hl, by decide, by decide, by unfold seqIndex?; simp, rfl, k⟩
theorem v_pop {l : Addr} {y : V} {r : List V} {H : Hp} {Q : VK} (hl : H l = some (.lst (r ++ [y]))) (k : Q y (upd H l (.lst r))) : rPop (.ref l) [] H Q :=
  ⟨l, r ++ [y], y, rfl, rfl, hl, by simp, by rw [List.dropLast_concat]; exact k⟩
theorem take_one_head {ns : List Int} {m : Int} : decide (ns.take 1 = [m]) = decide (ns.head? = some m) := by
  cases ns with
  | nil => simp
  | cons a r => simp
/-! ### comprehensions over enumerate, zip -/
theorem lc_it {J : It} {n : Nat} {g : TG} {tt : TT} {te : TE} {vs : List Nat} {σ : L2.St} {H1 : Hp} {D : Addr} {Qd : Hp → Prop} (Pv : Nat → Hp → Prop) (h0 : Pv 0 (upd H1 D (.lst []))) (hgo : ∀ i H, i < n → Pv i H → J.go i H) (hst : ∀ H, Pv n H → J.stop n H)
    (hs : ∀ i x H H', i < n → Pv i H → J.yld i H x H' → g x (wipe σ vs) H' fun σ2 H2 => wipe σ2 vs = wipe σ vs ∧ tt σ2 H2 fun b H3 =>
      if b = true then te σ2 H3 fun y H4 => ∃ acc, H4 D = some (.lst acc) ∧ acc.length < sizeLine ∧ Pv (i + 1) (upd H4 D (.lst (acc ++ [y]))) else Pv (i + 1) H3) (hd : ∀ H, Pv n H → Qd H) :
    ∃ W : Nat → Nat → Hp → Prop, (∃ m, W 0 m (upd H1 D (.lst []))) ∧ ∀ i m H, W i m H →
      (J.stop i H ∧ Qd H) ∨ (J.go i H ∧ ∃ Nx : Hp → Prop, (∀ H', Nx H' → ∃ m', m' < m ∧ W (i + 1) m' H') ∧ ∀ x H', J.yld i H x H' → g x (wipe σ vs) H' fun σ2 H2 => wipe σ2 vs = wipe σ vs ∧ tt σ2 H2 fun b H3 =>
        if b = true then te σ2 H3 fun y H4 => ∃ acc, H4 D = some (.lst acc) ∧ acc.length < sizeLine ∧ Nx (upd H4 D (.lst (acc ++ [y]))) else Nx H3) := by
  refine ⟨fun i m H => m = n - i ∧ i ≤ n ∧ Pv i H, ⟨n, rfl, Nat.zero_le _, h0⟩, ?_⟩
  rintro i m H ⟨rfl, hi, p⟩
  by_cases hlt : i < n
  · exact .inr ⟨hgo i H hlt p, Pv (i + 1), fun H' p' => ⟨n - (i + 1), by omega, rfl, hlt, p'⟩, fun x H' y => hs i x H H' hlt p y⟩
  · obtain rfl : i = n := by omega
    exact .inl ⟨hst H p, hd H p⟩
def LcE (K : PySem.W.Frag) (g : TG) (tt : TT) (te : TE) (vs : List Nat) (σ : L2.St) (Q : VK) (ws : List V) (H1 : Hp) : Prop := ∃ a xs, ws = [.ref a] ∧ SqL K H1 a xs ∧ ∀ D, H1 D = none → ∃ W : Nat → Nat → Hp → Prop, (∃ m, W 0 m (upd H1 D (.lst []))) ∧ ∀ i m H, W i m H →
  ((Ite K a).stop i H ∧ Q (.ref D) H) ∨ ((Ite K a).go i H ∧ ∃ Nx : Hp → Prop, (∀ H', Nx H' → ∃ m', m' < m ∧ W (i + 1) m' H') ∧ ∀ x H', (Ite K a).yld i H x H' → g x (wipe σ vs) H' fun σ2 H2 => wipe σ2 vs = wipe σ vs ∧ tt σ2 H2 fun b H3 =>
    if b = true then te σ2 H3 fun y H4 => ∃ acc, H4 D = some (.lst acc) ∧ acc.length < sizeLine ∧ Nx (upd H4 D (.lst (acc ++ [y]))) else Nx H3)
section
variable {K : PySem.W.Frag} {σ : L2.St} {H : Hp} {Q : VK} {te : TE} {tr : TA} {g : TG} {vs : List Nat}
theorem w_lcE {tt : TT} (k : tr σ H fun x H1 => LcE K g tt te vs σ Q x H1) : tLc (iEnum K tr) g tt te vs σ H Q := k
theorem v_lcE {a : Addr} {i1 i2 : Nat} {ns : List Int} {σ2 : Nat → Int → L2.St} (Rel : Nat → Int → V → Hp → Prop) (hS : SqL K H a (ns.map V.int)) (hz : ns.length ≤ 16777215)
    (hσ : ∀ (i : Nat) n, ((wipe σ vs).set i1 (some (.int (i : Int)))).set i2 (some (.int n)) = σ2 i n) (hw : ∀ i n, wipe (σ2 i n) vs = wipe σ vs)
    (mono : ∀ i n y H1 H2, Same H1 H2 → Rel i n y H1 → Rel i n y H2) (stb : ∀ i n y H1 D xs xs', H1 D = some (.lst xs) → Rel i n y H1 → Rel i n y (upd H1 D (.lst xs')))
    (he : ∀ i n H', ns[i]? = some n → Same H H' → ∀ R : VK, (∀ y H2, Same H' H2 → Rel i n y H2 → R y H2) → te (σ2 i n) H' R)
    (k : ∀ D H2 ys, H D = none → Same H H2 → H2 D = some (.lst ys) → ys.length = ns.length → (∀ (i : Nat) n y, ns[i]? = some n → ys[i]? = some y → Rel i n y H2) → Q (.ref D) H2) :
    LcE K (gTup K 2 (gCons (gName i1) (gCons (gName i2) gNil))) tYes te vs σ Q [.ref a] H := by
  refine ⟨a, _, rfl, hS, fun D hD => lc_it (J := Ite K a) (n := ns.length) (fun i H' => Same H H' ∧ ∃ ys, H' D = some (.lst ys) ∧ ys.length = i ∧ ∀ (j : Nat) n y, ns[j]? = some n → ys[j]? = some y → Rel j n y H') ⟨same_up hD, [], upd_same, rfl, fun j n y _ h => by simp at h⟩ ?_ ?_ ?_ ?_⟩
  · rintro i H' hi ⟨s, _⟩
    exact ⟨_, _, s.seq hS, by rw [List.getElem?_map, List.getElem?_eq_getElem hi]; rfl⟩
  · rintro H' ⟨s, _⟩
    exact ⟨_, s.seq hS, by rw [List.length_map]; exact Nat.le_refl _⟩
  · rintro i x H' H'' hi ⟨s, ys, d, hl, hr⟩ ⟨T, y, rfl, nT, rfl, hy⟩
    have e := hy _ (s.seq hS)
    rw [List.getElem?_map, List.getElem?_eq_getElem hi] at e
    have e' : V.int ns[i] = y := Option.some.inj e
    subst e'
    have sT := same_up (o := .tup [.int (i : Int), .int ns[i]]) nT
    refine g_pair (st_h upd_same) ?_
    rw [hσ]
    refine ⟨hw _ _, ?_⟩
    refine w_yes ?_
    refine v_ift rfl ?_
    refine he i ns[i] _ (List.getElem?_eq_getElem hi) (s.trans sT) _ fun y H4 s4 hR => ?_
    have s4' := (s.trans sT).trans s4
    have d4 := s4 _ _ (sT _ _ d)
    refine ⟨ys, d4, fits_lt (by omega), same_mut s4' hD, ys ++ [y], upd_same, by rw [List.length_append, hl]; rfl, ?_⟩
    intro j n z hn hzz
    by_cases hj : j < ys.length
    · rw [List.getElem?_append_left hj] at hzz
      exact stb _ _ _ _ _ _ _ d4 (mono _ _ _ _ _ (sT.trans s4) (hr j n z hn hzz))
    · have hj2 : j < (ys ++ [y]).length := (List.getElem?_eq_some_iff.mp hzz).1
      rw [List.length_append, List.length_singleton] at hj2
      have hj3 : j = i := by omega
      subst hj3
      rw [List.getElem?_append_right (by omega), hl, Nat.sub_self] at hzz
      have hz2 : y = z := Option.some.inj hzz
      subst hz2
      rw [List.getElem?_eq_getElem hi] at hn
      have hn2 : ns[j] = n := Option.some.inj hn
      subst hn2
      exact stb _ _ _ _ _ _ _ d4 hR
  · rintro H' ⟨s, ys, d, hl, hr⟩
    exact k D H' ys hD s d hl hr
end
/-- a pair of ints stands at v -/
def PairAt (H : Hp) (v : V) (x y : Int) : Prop := ∃ t, v = .ref t ∧ H t = some (.tup [.int x, .int y])
theorem PairAt.same {H H' : Hp} {v : V} {x y : Int} (e : Same H H') : PairAt H v x y → PairAt H' v x y := fun ⟨t, h1, h2⟩ => ⟨t, h1, e _ _ h2⟩
theorem PairAt.stay {H : Hp} {v : V} {x y : Int} {D : Addr} {xs xs' : List V} (hD : H D = some (.lst xs)) : PairAt H v x y → PairAt (upd H D (.lst xs')) v x y := fun ⟨t, h1, h2⟩ =>
  ⟨t, h1, by rw [upd_ne (ne_of h2 hD (by intro z; cases z))]; exact h2⟩
def kf (H : Hp) : V → Int × Int
  | .ref t => match H t with
    | some (.tup [.int a, .int b]) => (a, b)
    | _ => (0, 0)
  | _ => (0, 0)
theorem PairAt.kf {H : Hp} {v : V} {x y : Int} (h : PairAt H v x y) : kf H v = (x, y) := by
  obtain ⟨t, rfl, h2⟩ := h
  unfold Wt.kf
  simp only [h2]
/-- sorted, of pairs of ints: the one list -/
theorem v_sortedP {K : PySem.W.Frag} {H : Hp} {Q : VK} {l : Addr} {xs : List V} {ps : List (Int × Int)} (h : SqL K H l xs) (hl : xs.length = ps.length) (hp : ∀ (i : Nat) v q, xs[i]? = some v → ps[i]? = some q → PairAt H v q.1 q.2)
    (k : ∀ p H2 ys, H p = none → Same H H2 → H2 p = some (.lst ys) → (∀ y ∈ ys, PairAt H2 y (kf H y).1 (kf H y).2) → ys.map (kf H) = srtP ps → Q (.ref p) H2) : rSortedPO K [.ref l] H Q := by
  have hx : xs.map (kf H) = ps := by
    refine List.ext_getElem? fun i => ?_
    rw [List.getElem?_map]
    by_cases hi : i < xs.length
    · rw [List.getElem?_eq_getElem hi, List.getElem?_eq_getElem (show i < ps.length by omega)]
      show some (kf H xs[i]) = _
      rw [(hp i _ _ (List.getElem?_eq_getElem hi) (List.getElem?_eq_getElem (show i < ps.length by omega))).kf]
    · rw [List.getElem?_eq_none (by omega), List.getElem?_eq_none (by omega)]
      rfl
  have hm : ∀ x ∈ xs, PairAt H x (kf H x).1 (kf H x).2 := by
    intro x hx2
    obtain ⟨i, hi, e⟩ := List.getElem_of_mem hx2
    have q := hp i x ps[i] (by rw [List.getElem?_eq_getElem hi, e]) (List.getElem?_eq_getElem (show i < ps.length by omega))
    rw [q.kf]
    exact q
  refine ⟨l, xs, kf H, rfl, h, fun x hx2 => hm x hx2, fun ys p hs hb hn => ?_⟩
  refine k p _ ys hn (same_up hn) upd_same (fun y hy => (hm y (hb.perm.mem_iff.mp hy)).same (same_up hn)) ?_
  rw [← hx]
  refine srtP_uniq (hb.perm.map _) ?_
  refine List.Pairwise.map _ ?_ hs
  intro x y hxy
  unfold lexLe
  by_cases c : (kf H x).1 < (kf H y).1 ∨ ((kf H x).1 = (kf H y).1 ∧ (kf H x).2 ≤ (kf H y).2)
  · exact c
  · have : SrtO.lexB (kf H y) (kf H x) = true := SrtO.lexB_iff.mpr (by omega)
    have h2 : SrtO.lexB (kf H y) (kf H x) = false := hxy
    rw [this] at h2
    cases h2
/-! ### is None, abs, two names at once -/
def rIsNone : R2 := fun x y H Q => y = .non ∧ Q (.bl (decide (x = .non))) H
theorem op_isN0 {X : Cx} : OpR X (compareOp .Is) rIsNone := op_isN
theorem v_isN {x : V} {H : Hp} {Q : VK} (k : Q (.bl (decide (x = .non))) H) : rIsNone x .non H Q := ⟨rfl, k⟩
def rAbs : List V → Hp → VK → Prop := fun xs H Q => ∃ i, xs = [.int i] ∧ Q (.int (if i < 0 then -i else i)) H
theorem call_absK {X : Cx} : CallR X (.builtin "abs") rAbs := call_abs
theorem v_abs {a : Int} {H : Hp} {Q : VK} (k : Q (.int (if a < 0 then -a else a)) H) : rAbs [.int a] H Q := ⟨a, rfl, k⟩
theorem w_par {i j : Nat} {ta : TA} {D : Ends} {σ : L2.St} {H : Hp} (k : ta σ H fun vs H1 => ∃ v w, vs = [v, w] ∧ D.nx ((σ.set i (some v)).set j (some w)) H1) : tPar i j ta D σ H := k
theorem v_par {f : L2.St → Hp → Prop} {σ : L2.St} {i j : Nat} {x y : V} {H : Hp} (k : f ((σ.set i (some x)).set j (some y)) H) : ∃ v w, [x, y] = [v, w] ∧ f ((σ.set i (some v)).set j (some w)) H := ⟨x, y, rfl, k⟩
/-- two promises of one def -/
theorem FnOk.or {P : Program} {w : World} {K : PySem.W.Frag} {mg : Str → Option Value} {base : Heap} {CX : CXT} {k : Nat} {f : Addr} {fd : FuncData} {ps : List Str} {sp sp' : Sp} (F : FnOk P w K mg base CX k f fd ps sp) (F' : FnOk P w K mg base CX k f fd ps sp') :
    FnOk P w K mg base CX k f fd ps (fun vs H Q E => sp vs H Q E ∨ sp' vs H Q E) :=
  ⟨fun vs H Q E h => h.elim (F.len vs H Q E) (F'.len vs H Q E), fun A outer s H args us vs Q E hr e0 hb hv h => h.elim (F.run A outer s H args us vs Q E hr e0 hb hv) (F'.run A outer s H args us vs Q E hr e0 hb hv)⟩
theorem kb_il : kitB "int" "list" = some false := by decide +kernel
theorem kb_it : kitB "int" "tuple" = some false := by decide +kernel
theorem kb_is : kitB "int" "str" = some false := by decide +kernel
end Wt
namespace Wt
open PySem L2 PySem.Spec PyProof.Rows
/-! ### own exceptions -/
/-- raise C('..') -/
def tRaiseC (E : XK) (cls : Value) : TS := fun _ _ H => E cls none H
/-- try: .. except C as x (slot i): .. ; all that comes is of C -/
def tTryAs (K : PySem.W.Frag) (C : Addr) (i : Nat) (tb : WX → TS) (ts : Addr → Value → Option Addr → TS) : TS := fun D σ H => tb (wAs K (.ref C) i ts (fun _ _ _ _ => False) D) D σ H
theorem passX0 {P : Program} {w : World} {X : Cx} : Passes (L2.CX P w) X E0 := fun _ _ _ _ _ _ _ h => by
  obtain ⟨_, _, _, _, _, _, _, _, _, _, _, _, z⟩ := h
  exact z.elim
/-- isinstance(error, c), of whichever class the error is -/
def rIsX (K : PySem.W.Frag) (a : Addr) (cls : Value) (d : Option Addr) : List V → Hp → VK → Prop := fun xs H Q => ∃ D, cls = .ref D ∧ d = none ∧ ExcC K D ∧ rIsE K D a xs H Q
theorem call_isX {X : Cx} {a : Addr} {cls : Value} {d : Option Addr} {oe : Obj} {pn : List (Addr × Obj)} (hz : Zc cls d oe) (hf : ∃ vs, oe.data = .fields vs) : CallR (X.suite a ((a, oe) :: pn)) (.builtin "isinstance") (rIsX X.K a cls d) := by
  intro pins s σ H xs us Q I r h
  obtain ⟨D, rfl, rfl, C, h⟩ := h
  exact call_isE C hz hf pins s σ H xs us Q I r h
theorem v_isX {K : PySem.W.Frag} {a D : Addr} {H : Hp} {Q : VK} {x : V} {cv : Value} {b : Bool} (C : ExcC K D) (hc : ClsV x cv) (hk : PySem.W.kitOne K (.ref D) cv = some b) (k : Q (.bl b) H) : rIsX K a (.ref D) none [.ref a, x] H Q :=
  ⟨D, rfl, rfl, C, x, cv, b, rfl, fun u r => hc.eq r, hk, k⟩
section
variable {K : PySem.W.Frag} {σ : L2.St} {H : Hp} {Q : VK} {D : Ends}
theorem w_raise {E : XK} {cls : Value} (k : E cls none H) : tRaiseC E cls D σ H := k
theorem w_try {C : Addr} {i : Nat} {tb : WX → TS} {ts : Addr → Value → Option Addr → TS} (k : tb (wAs K (.ref C) i ts (fun _ _ _ _ => False) D) D σ H) : tTryAs K C i tb ts D σ H := k
theorem w_callS {sp : Sp} {E : L2.St → XK} {t : TA} (k : t σ H fun vs H1 => sp vs H1 Q (E σ)) : tCallS sp E t σ H Q := k
/-- the exception is the clause's -/
theorem v_caught {C : Addr} {i : Nat} {ts : Addr → Value → Option Addr → TS} {cls : Value} {d : Option Addr} (h : PySem.W.exmOne K cls (.ref C) = some true)
    (k : ∀ a, H a = none → ts a cls d { nx := fun σ' H' => D.nx (σ'.set i none) H', rt := D.rt, bk := fun σ' H' => D.bk (σ'.set i none) H', ct := fun σ' H' => D.ct (σ'.set i none) H' } (σ.set i (some (.ref a))) H) :
    WE (wAs K (.ref C) i ts (fun _ _ _ _ => False) D) σ cls d H := ⟨true, h, fun _ => k, fun z => nomatch z⟩
theorem w_dnew (k : ∀ p H1, H p = none → Same H H1 → H1 p = some (.dK []) → Q (.ref p) H1) : tDNewK σ H Q := fun p hp => k p _ hp (same_up hp) upd_same
/-! == and != of lists of truths -/
theorem dp_bools {l : Addr} {bs : List Bool} (h : SqL K H l (bs.map V.bl)) : Dp K H (.ref l) (.list (bs.map PyData.bool)) := by
  refine .lst h ?_
  clear h
  induction bs with
  | nil => exact .nil
  | cons a r ih => exact .cons (.bl a) ih
theorem canLay_bools (ns : List Bool) : PyData.canLayAll0 (ns.map PyData.bool) = true := by
  induction ns with
  | nil => rfl
  | cons a r ih =>
    rw [List.map_cons]
    unfold PyData.canLayAll0
    rw [ih]
    rfl
theorem depth_bools (ns : List Bool) : PyData.depthAll (ns.map PyData.bool) = 0 := by
  induction ns with
  | nil => rfl
  | cons a r ih =>
    rw [List.map_cons]
    unfold PyData.depthAll
    rw [ih]
    rfl
theorem shaped_bools (ns : List Bool) : SeqAt.shaped (.list (ns.map PyData.bool)) = true := by
  unfold SeqAt.shaped PyData.canLay0 PyData.depth
  rw [canLay_bools, depth_bools]
  rfl
theorem eqvAll_bools : ∀ ns ms : List Bool, PyData.eqvAll (ns.map PyData.bool) (ms.map PyData.bool) = decide (ns = ms)
  | [], [] => rfl
  | [], _ :: _ => rfl
  | _ :: _, [] => rfl
  | a :: r, b :: q => by
    have h := eqvAll_bools r q
    show (PyData.eqv (.bool a) (.bool b) && PyData.eqvAll (r.map PyData.bool) (q.map PyData.bool)) = _
    rw [h]
    cases a <;> cases b <;> by_cases c : r = q <;> simp [c, PyData.eqv]
theorem eqv_bools (ns ms : List Bool) : PyData.eqv (.list (ns.map PyData.bool)) (.list (ms.map PyData.bool)) = decide (ns = ms) := eqvAll_bools ns ms
theorem v_neLB {l m : Addr} {ns ms : List Bool} (h : SqL K H l (ns.map V.bl)) (h' : SqL K H m (ms.map V.bl)) (k : Q (.bl (!decide (ns = ms))) H) : rNeD K (.ref l) (.ref m) H Q :=
  ⟨_, _, dp_bools h, dp_bools h', shaped_bools ns, shaped_bools ms, by rw [eqv_bools]; exact k⟩
theorem v_catV {l m : Addr} {xs ys : List V} (h : H l = some (.lst xs)) (h' : H m = some (.lst ys)) (hz : xs.length + ys.length ≤ 16777215) (k : ∀ p H2, H p = none → Same H H2 → H2 p = some (.lst (xs ++ ys)) → Q (.ref p) H2) : rCat (.ref l) (.ref m) H Q :=
  ⟨l, m, _, _, rfl, rfl, h, h', fits hz, v_new k⟩
theorem v_rep {l : Addr} {n : Int} {z : Int} (h : H l = some (.lst [.int z])) (h0 : 0 ≤ n) (h1 : n ≤ 100000) (k : ∀ p H2, H p = none → Same H H2 → H2 p = some (.lst ((List.replicate n.toNat z).map V.int)) → Q (.ref p) H2) : rRep (.ref l) (.int n) H Q := by
  have e : ∀ m : Nat, (List.replicate m [V.int z]).flatten = (List.replicate m z).map V.int := by
    intro m
    induction m with
    | zero => rfl
    | succ m ih => rw [List.replicate_succ, List.flatten_cons, ih, List.replicate_succ]; rfl
  refine ⟨l, n, _, rfl, rfl, h, by omega, by omega, fits (by simp only [List.length_cons, List.length_nil]; omega), ?_⟩
  rw [e]
  exact v_new k
end
end Wt
namespace Wt
open PySem L2 PySem.Spec PyProof.Rows
theorem bt_ValueError : bootBuiltins "ValueError" = some (.type "ValueError") := by decide +kernel
theorem kitMeta_VE : PySem.W.kitMeta "ValueError" = true := by decide +kernel
theorem kit_VE {K : PySem.W.Frag} {D : Addr} (h : PySem.W.subIn K (.ref D) (.type "ValueError") = some true) : PySem.W.kitOne K (.ref D) (.type "ValueError") = some true := by
  unfold PySem.W.kitOne
  have e : (Value.ref D == Value.type "ValueError") = false := rfl
  rw [e, if_neg Bool.false_ne_true]
  show (if PySem.W.kitMeta "ValueError" = true then PySem.W.subIn K (.ref D) (.type "ValueError") else none) = _
  rw [if_pos kitMeta_VE]
  exact h
end Wt
namespace Wt
open PySem L2 PySem.Spec PyProof.Rows
def topS (i : Nat) : Stmt := PySem.Challenge.pw_weightset_k06_refused.main.body.getD i (.Pass ⟨0, 0, 0, 0⟩)
abbrev sWall : Stmt := topS 0
abbrev sIsNumber : Stmt := topS 7
abbrev sAskedSet : Stmt := topS 8
abbrev sFirstMissing : Stmt := topS 9
abbrev sFirstGap : Stmt := topS 10
abbrev sWeighing : Stmt := topS 11
abbrev sWithout : Stmt := topS 12
abbrev sAllShows : Stmt := inClass (topS 15) 0
abbrev sGapInit : Stmt := inClass (topS 16) 0
abbrev sGapShows : Stmt := inClass (topS 16) 1
abbrev sBestInit : Stmt := inClass (topS 17) 0
abbrev sBestShows : Stmt := inClass (topS 17) 1
abbrev sAskedMost : Stmt := topS 19
abbrev sTold : Stmt := topS 20
abbrev sFewest : Stmt := topS 21
abbrev sLawAsk : Stmt := topS 23
abbrev sLawTold : Stmt := topS 24
abbrev sLaw : Stmt := topS 25
theorem sc_sWall : FnScope ["k"] ["k"] (defScope sWall) := ⟨rfl, rfl, rfl, by decide +kernel, rfl, by decide +kernel, by decide +kernel⟩
theorem sc_sIsNumber : FnScope ["thing", "least"] ["thing", "least"] (defScope sIsNumber) := ⟨rfl, rfl, rfl, by decide +kernel, rfl, by decide +kernel, by decide +kernel⟩
theorem sc_sAskedSet : FnScope ["weights", "weight"] ["weights"] (defScope sAskedSet) := ⟨rfl, rfl, rfl, by decide +kernel, rfl, by decide +kernel, by decide +kernel⟩
theorem sc_sFirstMissing : FnScope ["weights", "found", "weight"] ["weights"] (defScope sFirstMissing) := ⟨rfl, rfl, rfl, by decide +kernel, rfl, by decide +kernel, by decide +kernel⟩
theorem sc_sFirstGap : FnScope ["weights"] ["weights"] (defScope sFirstGap) := ⟨rfl, rfl, rfl, by decide +kernel, rfl, by decide +kernel, by decide +kernel⟩
theorem sc_sWeighing : FnScope ["weights", "number", "found", "left", "weight", "place"] ["weights", "number"] (defScope sWeighing) := ⟨rfl, rfl, rfl, by decide +kernel, rfl, by decide +kernel, by decide +kernel⟩
theorem sc_sWithout : FnScope ["weights", "place"] ["weights", "place"] (defScope sWithout) := ⟨rfl, rfl, rfl, by decide +kernel, rfl, by decide +kernel, by decide +kernel⟩
theorem sc_sAllShows : FnScope ["self", "weights", "most"] ["self", "weights", "most"] (defScope sAllShows) := ⟨rfl, rfl, rfl, by decide +kernel, rfl, by decide +kernel, by decide +kernel⟩
theorem sc_sGapInit : FnScope ["self", "number"] ["self", "number"] (defScope sGapInit) := ⟨rfl, rfl, rfl, by decide +kernel, rfl, by decide +kernel, by decide +kernel⟩
theorem sc_sGapShows : FnScope ["self", "weights", "most"] ["self", "weights", "most"] (defScope sGapShows) := ⟨rfl, rfl, rfl, by decide +kernel, rfl, by decide +kernel, by decide +kernel⟩
theorem sc_sBestInit : FnScope ["self", "added", "misses"] ["self", "added", "misses"] (defScope sBestInit) := ⟨rfl, rfl, rfl, by decide +kernel, rfl, by decide +kernel, by decide +kernel⟩
theorem sc_sBestShows : FnScope ["self", "weights", "most"] ["self", "weights", "most"] (defScope sBestShows) := ⟨rfl, rfl, rfl, by decide +kernel, rfl, by decide +kernel, by decide +kernel⟩
theorem sc_sAskedMost : FnScope ["most"] ["most"] (defScope sAskedMost) := ⟨rfl, rfl, rfl, by decide +kernel, rfl, by decide +kernel, by decide +kernel⟩
theorem sc_sTold : FnScope ["weights", "most", "found"] ["weights", "most"] (defScope sTold) := ⟨rfl, rfl, rfl, by decide +kernel, rfl, by decide +kernel, by decide +kernel⟩
theorem sc_sFewest : FnScope ["weights", "most", "order", "found", "reach", "at"] ["weights", "most"] (defScope sFewest) := ⟨rfl, rfl, rfl, by decide +kernel, rfl, by decide +kernel, by decide +kernel⟩
theorem sc_sLawAsk : FnScope ["_law_door", "_law_weights", "_law_other"] ["_law_door", "_law_weights", "_law_other"] (defScope sLawAsk) := ⟨rfl, rfl, rfl, by decide +kernel, rfl, by decide +kernel, by decide +kernel⟩
theorem sc_sLawTold : FnScope ["_law_kind", "_law_which", "_law_more", "_law_bad", "error", "_law_found", "_law_weight"] ["_law_kind", "_law_which", "_law_more"] (defScope sLawTold) := ⟨rfl, rfl, rfl, by decide +kernel, rfl, by decide +kernel, by decide +kernel⟩
theorem sc_sLaw : FnScope ["_law_script", "_law_cell", "_law_kind", "_law_due"] ["_law_script"] (defScope sLaw) := ⟨rfl, rfl, rfl, by decide +kernel, rfl, by decide +kernel, by decide +kernel⟩
structure Ca where
  (WeightError BadSet BadNumber BadPlace Answer All Gap Best : Addr)
structure Tx (K : PySem.W.Frag) (mg : Str → Option Value) (c : Ca) : Prop where
  z_ValueError : mg "ValueError" = none
  z_all : mg "all" = none
  z_bool : mg "bool" = none
  z_enumerate : mg "enumerate" = none
  z_int : mg "int" = none
  z_isinstance : mg "isinstance" = none
  z_len : mg "len" = none
  z_list : mg "list" = none
  z_range : mg "range" = none
  z_sorted : mg "sorted" = none
  g_All : mg "All" = some (.ref c.All)
  g_Gap : mg "Gap" = some (.ref c.Gap)
  g_Best : mg "Best" = some (.ref c.Best)
  g_Answer : mg "Answer" = some (.ref c.Answer)
  c_All : Cls K c.All
  i_All : PySem.W.findIn K (.ref c.All) "__class__" = some (some (.builtin "object.__class__"))
  o_All : PySem.W.mroIn K c.All (.type "object") = some true
  k_All_All : PySem.W.kitOne K (.ref c.All) (.ref c.All) = some true
  k_All_Gap : PySem.W.kitOne K (.ref c.All) (.ref c.Gap) = some false
  k_All_Best : PySem.W.kitOne K (.ref c.All) (.ref c.Best) = some false
  k_All_Answer : PySem.W.kitOne K (.ref c.All) (.ref c.Answer) = some true
  c_Gap : Cls K c.Gap
  n_Gap_number : NoAttr K c.Gap "number"
  i_Gap : PySem.W.findIn K (.ref c.Gap) "__class__" = some (some (.builtin "object.__class__"))
  o_Gap : PySem.W.mroIn K c.Gap (.type "object") = some true
  k_Gap_All : PySem.W.kitOne K (.ref c.Gap) (.ref c.All) = some false
  k_Gap_Gap : PySem.W.kitOne K (.ref c.Gap) (.ref c.Gap) = some true
  k_Gap_Best : PySem.W.kitOne K (.ref c.Gap) (.ref c.Best) = some false
  k_Gap_Answer : PySem.W.kitOne K (.ref c.Gap) (.ref c.Answer) = some true
  c_Best : Cls K c.Best
  n_Best_added : NoAttr K c.Best "added"
  n_Best_misses : NoAttr K c.Best "misses"
  i_Best : PySem.W.findIn K (.ref c.Best) "__class__" = some (some (.builtin "object.__class__"))
  o_Best : PySem.W.mroIn K c.Best (.type "object") = some true
  k_Best_All : PySem.W.kitOne K (.ref c.Best) (.ref c.All) = some false
  k_Best_Gap : PySem.W.kitOne K (.ref c.Best) (.ref c.Gap) = some false
  k_Best_Best : PySem.W.kitOne K (.ref c.Best) (.ref c.Best) = some true
  k_Best_Answer : PySem.W.kitOne K (.ref c.Best) (.ref c.Answer) = some true
  g_WeightError : mg "WeightError" = some (.ref c.WeightError)
  g_BadSet : mg "BadSet" = some (.ref c.BadSet)
  g_BadNumber : mg "BadNumber" = some (.ref c.BadNumber)
  g_BadPlace : mg "BadPlace" = some (.ref c.BadPlace)
  xc_BadSet : PySem.W.excIn K c.BadSet [.type "ValueError", .type "Exception", .type "BaseException", .type "object"] "ValueError.__new__" = true
  kp_BadSet : PySem.W.keepIn K (.ref c.BadSet) = true
  be_BadSet : PySem.W.subIn K (.ref c.BadSet) (.type "BaseException") = some true
  ty_BadSet : PySem.W.typeIn K (.ref c.BadSet) = some (.type "type")
  ex_BadSet : ExcC K c.BadSet
  em_BadSet : PySem.W.exmOne K (.ref c.BadSet) (.ref c.WeightError) = some true
  kv_BadSet : PySem.W.kitOne K (.ref c.BadSet) (.type "ValueError") = some true
  kk_BadSet_BadSet : PySem.W.kitOne K (.ref c.BadSet) (.ref c.BadSet) = some true
  kk_BadSet_BadNumber : PySem.W.kitOne K (.ref c.BadSet) (.ref c.BadNumber) = some false
  kk_BadSet_BadPlace : PySem.W.kitOne K (.ref c.BadSet) (.ref c.BadPlace) = some false
  xc_BadNumber : PySem.W.excIn K c.BadNumber [.type "ValueError", .type "Exception", .type "BaseException", .type "object"] "ValueError.__new__" = true
  kp_BadNumber : PySem.W.keepIn K (.ref c.BadNumber) = true
  be_BadNumber : PySem.W.subIn K (.ref c.BadNumber) (.type "BaseException") = some true
  ty_BadNumber : PySem.W.typeIn K (.ref c.BadNumber) = some (.type "type")
  ex_BadNumber : ExcC K c.BadNumber
  em_BadNumber : PySem.W.exmOne K (.ref c.BadNumber) (.ref c.WeightError) = some true
  kv_BadNumber : PySem.W.kitOne K (.ref c.BadNumber) (.type "ValueError") = some true
  kk_BadNumber_BadSet : PySem.W.kitOne K (.ref c.BadNumber) (.ref c.BadSet) = some false
  kk_BadNumber_BadNumber : PySem.W.kitOne K (.ref c.BadNumber) (.ref c.BadNumber) = some true
  kk_BadNumber_BadPlace : PySem.W.kitOne K (.ref c.BadNumber) (.ref c.BadPlace) = some false
  xc_BadPlace : PySem.W.excIn K c.BadPlace [.type "ValueError", .type "Exception", .type "BaseException", .type "object"] "ValueError.__new__" = true
  kp_BadPlace : PySem.W.keepIn K (.ref c.BadPlace) = true
  be_BadPlace : PySem.W.subIn K (.ref c.BadPlace) (.type "BaseException") = some true
  ty_BadPlace : PySem.W.typeIn K (.ref c.BadPlace) = some (.type "type")
  ex_BadPlace : ExcC K c.BadPlace
  em_BadPlace : PySem.W.exmOne K (.ref c.BadPlace) (.ref c.WeightError) = some true
  kv_BadPlace : PySem.W.kitOne K (.ref c.BadPlace) (.type "ValueError") = some true
  kk_BadPlace_BadSet : PySem.W.kitOne K (.ref c.BadPlace) (.ref c.BadSet) = some false
  kk_BadPlace_BadNumber : PySem.W.kitOne K (.ref c.BadPlace) (.ref c.BadNumber) = some false
  kk_BadPlace_BadPlace : PySem.W.kitOne K (.ref c.BadPlace) (.ref c.BadPlace) = some true
  dsp : PySem.W.specialIn K (.builtin "object.__class__") "__get__" = some (some (.builtin "getset_descriptor.__get__"))
  tks : PySem.W.takesIn K (.builtin "object.__class__") = some true
/-! ### steps -/
local macro_rules | `(tactic| wtm_at "hp") => `(tactic| first | assumption | (refine same_at (by assumption) ?_; wtm_at "hp"))
local macro_rules | `(tactic| wtm_at "sq") => `(tactic| first | assumption | (refine sq_h ?_; wtm_at "hp") | (refine same_sq (by assumption) ?_; wtm_at "sq"))
local macro_rules | `(tactic| wtm_at "st") => `(tactic| first | assumption | (refine st_h ?_; wtm_at "hp") | (refine same_st (by assumption) ?_; wtm_at "st"))
local macro_rules | `(tactic| wtm_at "set") => `(tactic| first | exact set_0 | (refine set_s ?_; wtm_at "set"))
local macro_rules | `(tactic| wtm_at "w1") => `(tactic| first
  | ((with_reducible refine w_var (v := ?v) ?h ?k); (case h => exact rfl))
  | (with_reducible refine w_c ?_)
  | (with_reducible refine w_op ?_)
  | (with_reducible refine v_I0 ?_)
  | (with_reducible refine w_cons ?_)
  | (with_reducible refine w_nil ?_)
  | (with_reducible refine w_seq ?_)
  | (with_reducible refine w_asg ?_)
  | ((with_reducible refine w_nx (σ' := ?s) ?h ?k); (case h => wtm_at "set"))
  | (with_reducible refine w_test ?_)
  | (with_reducible refine v_b ?_)
  | (with_reducible refine w_call ?_)
  | (with_reducible refine w_cb ?_)
  | (with_reducible refine w_B ?_)
  | (with_reducible refine w_or ?_)
  | (with_reducible refine w_and ?_)
  | (with_reducible refine w_not ?_)
  | (with_reducible refine w_ifS ?_)
  | (with_reducible refine w_ret ?_)
  | (with_reducible refine w_drop ?_)
  | (with_reducible refine w_next ?_)
  | (with_reducible refine v_eqI ?_)
  | (with_reducible refine v_neI ?_)
  | (with_reducible refine w_lst ?_)
  | (with_reducible refine w_tup ?_)
  | (with_reducible refine w_fld ?_)
  | (with_reducible refine w_meth ?_)
  | (with_reducible refine w_make ?_)
  | (with_reducible refine w_for ?_)
  | (with_reducible refine w_lc ?_)
  | (with_reducible refine w_sl ?_)
  | (with_reducible refine w_part ?_)
  | (with_reducible refine w_nopart ?_)
  | (with_reducible refine v_i ?_)
  | (with_reducible refine w_chain ?_)
  | (with_reducible refine w_un ?_)
  | (with_reducible refine v_U ?_)
  | (with_reducible refine w_andV ?_)
  | (with_reducible refine w_orV ?_)
  | (with_reducible refine w_notV ?_)
  | (with_reducible refine w_ifE ?_)
  | (with_reducible refine w_bm ?_)
  | (with_reducible refine w_bm0 ?_)
  | (with_reducible refine w_rev ?_)
  | (with_reducible refine w_flds ?_)
  | ((with_reducible refine v_I ?c ?k); (case c => first | (with_reducible assumption) | ((with_reducible show (0 : Int) < _); omega) | (unfold CDiv; decide) | (unfold CPow; decide) | (unfold CDiv; constructor <;> omega) | (unfold CPow; exact ⟨by omega, by omega, by omega⟩))))

local macro_rules | `(tactic| wtm_at "w1") => `(tactic| first
  | ((with_reducible refine v_fld (C := ?C) (dx := ?dx) (fs := ?fs) (v := ?v) ?h ?hc ?hn ?hl ?k); (case h => wtm_at "hp"); (case hc => assumption); (case hn => assumption); (case hl => first | assumption | exact lk1 | exact lk2a | exact lk2b (by decide +kernel)))
  | ((with_reducible refine v_sum (ns := ?ns) ?h ?k); (case h => wtm_at "sq"))
  | ((with_reducible refine v_len (ns := ?ns) ?h ?k); (case h => wtm_at "sq"))
  | ((with_reducible refine v_in (ns := ?ns) ?h ?k); (case h => wtm_at "sq"))
  | (with_reducible refine w_lcR ?_)
  | (with_reducible refine w_lcE ?_)
  | (with_reducible refine w_par ?_)
  | (with_reducible refine v_par ?_)
  | (with_reducible refine v_isN ?_)
  | (with_reducible refine v_abs ?_)
  | (with_reducible refine v_eqB ?_)
  | (with_reducible refine v_neB ?_)
  | ((with_reducible refine v_ixL (xs := ?xs) (v := ?v) ?h ?e ?k); (case h => wtm_at "sq"); (case e => exact at_get (by omega) (by omega))))
local macro_rules | `(tactic| wtm_at "w") => `(tactic| repeat wtm_at "w1")
theorem w_start {t : TS} {D : Ends} {N : List Str} {vs : List V} {σ : L2.St} {H : Hp} (h : start N vs = σ) (k : t D σ H) : t D (start N vs) H := h ▸ k
section
variable {P : Program} {w : World} {K : PySem.W.Frag} {mg : Str → Option Value} {base : Heap} {c : Ca}
local macro_rules | `(tactic| wtm_at "w1") => `(tactic| first | (with_reducible refine w_try ?_) | (with_reducible refine w_callS ?_))
/-! ### is_number -/
def sp_is_number (K : PySem.W.Frag) (_ : Ca) : Sp := fun vs H Q _ => ∃ x l, vs = [x, .int l] ∧ Okd K H x ∧ Ret (.bl (isNum x l)) H Q
theorem c_is_number {x : V} {l : Int} {H : Hp} {Q : VK} {E : XK} (h : Okd K H x) (k : ∀ H2, Same H H2 → Q (.bl (isNum x l)) H2) : sp_is_number K c [x, .int l] H Q E := ⟨x, l, rfl, h, k⟩
theorem ok_is_number {f : Addr} {fd : FuncData} (A : At K mg "is_number" sIsNumber ["thing", "least"] f fd) (T : Tx K mg c) : FnAt P w K mg base CX0 1 "is_number" ["thing", "least"] (sp_is_number K c) f fd := by
  refine ⟨A.g, A.F.kp, A.b, A.F.ok sc_sIsNumber (fun vs H Q E h => ?_) (fun cdv Ar outer s H vs Q E hr h => ?_)⟩
  · obtain ⟨x, l, rfl, _⟩ := h
    rfl
  · obtain ⟨x, l, rfl, ho, k⟩ := h
    refine ⟨(tRet (tAndV (tCB (rIsi K) (tCons (tVar 0) (tCons (tC (.ty "int")) tNil))) (tAndV (tNotV (tCB (rIsi K) (tCons (tVar 0) (tCons (tC (.ty "bool")) tNil)))) (tOp (rI0 fun i j => .bl (decide (j ≤ i))) (tVar 0) (tVar 1))))), (pss_one (ps_ret (pe_and (pe_callB call_isi (by rfl) T.z_isinstance bt_isinstance (pa_cons (pv 0) (pa_cons (pe_bltn (v := .ty "int") (by rfl) T.z_int bt_int rfl) pa_nil))) (pe_and (pe_not (pe_callB call_isi (by rfl) T.z_isinstance bt_isinstance (pa_cons (pv 0) (pa_cons (pe_bltn (v := .ty "bool") (by rfl) T.z_bool bt_bool rfl) pa_nil)))) (pe_one (pe_cmpR op_ge (pv 0) (pv 1) (nomark _))))))), ?_⟩
    refine w_start (σ := [some _, some _]) rfl ?_
    wtm_at "w"
    refine v_isInt ho ?_
    wtm_at "w"
    refine v_andV (d := !isB x && isNum x l) (fun hI q hq => ?_) (fun H2 s2 => ?_)
    · wtm_at "w"
      refine v_isBool ho ?_
      wtm_at "w"
      refine v_andV (d := isNum x l) (fun hB q' hq' => ?_) (fun H2 s2 => hq H2 s2)
      have hx : ∃ i, x = .int i := by
        cases x with
        | int i => exact ⟨i, rfl⟩
        | non => cases hI
        | bl b => cases hB
        | str z => cases hI
        | byt z => cases hI
        | flt z => cases hI
        | ref z => cases hI
        | ty z => cases hI
      obtain ⟨i, rfl⟩ := hx
      wtm_at "w"
      exact hq' _ (Same.refl _)
    · have e : (isI x && (!isB x && isNum x l)) = isNum x l := by
        cases x <;> first | rfl | (unfold isI isB isNum; simp)
      rw [e]
      exact k H2 s2
/-! ### what is refused -/
/-- no set of weights: another thing than a list, or a list with a bad weight -/
def BadS (K : PySem.W.Frag) (H : Hp) (x : V) : Prop := (∃ t, TyX K H x t ∧ PySem.W.kitOne K t (.type "list") = some false) ∨ ∃ (a : Addr) (xs : List V), x = .ref a ∧ H a = some (.lst xs) ∧ xs.length ≤ 100 ∧ (∀ y ∈ xs, ∀ H', Same H H' → Okd K H' y) ∧ xs.all (fun y => isNum y 1) = false
/-- no number from l on, below u -/
def BadN (K : PySem.W.Frag) (H : Hp) (x : V) (l : Int) (u : Int) : Prop := (∀ H', Same H H' → Okd K H' x) ∧ (isNum x l = false ∨ ∃ i, x = .int i ∧ l ≤ i ∧ u ≤ i)
def Exc (E : XK) (C : Addr) (H : Hp) : Prop := ∀ H2, Same H H2 → E (.ref C) none H2
theorem isNum_int {x : V} {l : Int} (h : isNum x l = true) : ∃ i, x = .int i ∧ l ≤ i := by
  cases x with
  | int i => exact ⟨i, rfl, of_decide_eq_true h⟩
  | _ => cases h
theorem BadS.same {K : PySem.W.Frag} {H H' : Hp} {x : V} (e : Same H H') (h : BadS K H x) (hx : ∀ t, TyX K H x t → TyX K H' x t) : BadS K H' x := by
  rcases h with ⟨t, h1, h2⟩ | ⟨a, xs, h1, h2, h3, h4, h5⟩
  · exact .inl ⟨t, hx t h1, h2⟩
  · exact .inr ⟨a, xs, h1, e _ _ h2, h3, fun y hy H2 s => h4 y hy H2 (e.trans s), h5⟩
/-! ### asked_set -/
def sp_asked_set (K : PySem.W.Frag) (c : Ca) : Sp := fun vs H Q E => (∃ a ns, vs = [.ref a] ∧ SqL K H a (ns.map V.int) ∧ Pos ns ∧ ns.length ≤ 16777215 ∧ Ret .non H Q) ∨ ∃ x, vs = [x] ∧ BadS K H x ∧ Exc E c.BadSet H
theorem c_asked_set {a : Addr} {ns : List Int} {H : Hp} {Q : VK} {E : XK} (h : SqL K H a (ns.map V.int)) (hp : Pos ns) (hz : ns.length ≤ 16777215) (k : ∀ H2, Same H H2 → Q .non H2) : sp_asked_set K c [.ref a] H Q E := .inl ⟨a, ns, rfl, h, hp, hz, k⟩
theorem b_asked_set {x : V} {H : Hp} {Q : VK} {E : XK} (h : BadS K H x) (k : ∀ H2, Same H H2 → E (.ref c.BadSet) none H2) : sp_asked_set K c [x] H Q E := .inr ⟨x, rfl, h, k⟩
theorem ok_asked_set {f f0 : Addr} {fd fd0 : FuncData} (A : At K mg "asked_set" sAskedSet ["weights"] f fd) (T : Tx K mg c) (G_is_number : FnAt P w K mg base CX0 1 "is_number" ["thing", "least"] (sp_is_number K c) f0 fd0) : FnAt P w K mg base (L2.CX P w) 2 "asked_set" ["weights"] (sp_asked_set K c) f fd := by
  refine ⟨A.g, A.F.kp, A.b, A.F.okX sc_sAskedSet (fun vs H Q E h => ?_) (fun cdv Ar outer s H vs Q E hr h => ?_)⟩
  · rcases h with ⟨a, ns, rfl, _⟩ | ⟨x, rfl, _⟩ <;> rfl
  · rcases h with ⟨a, ns, rfl, hS, hp, hz, k⟩ | ⟨x, rfl, hb, k⟩
    · refine ⟨(tIfS (tOr (tNot (tB (tCB (rIsi K) (tCons (tVar 0) (tCons (tC (.ty "list")) tNil))))) (tNot (tB (tCB (rAll K) (tCons (tLc (iList K (tVar 0)) (gName 1) tYes (tCall (sp_is_number K c) [] E0 (tCons (tVar 1) (tCons (tC (.int 1)) tNil))) [1]) tNil))))) (tRaiseC E (.ref c.BadSet)) tNext), (pss_one (ps_if (PW.pt (pw_or (pt_not (pt_val (pe_callB call_isi (by rfl) T.z_isinstance bt_isinstance (pa_cons (pv 0) (pa_cons (pe_bltn (v := .ty "list") (by rfl) T.z_list bt_list rfl) pa_nil))))) (pw_or1 (pt_not (pt_val (pe_callB (cr_all rfl) (by rfl) T.z_all bt_all (pa_cons (pe_lc (own := [("weight", 1)]) (g := gName 1) (tt := tYes) (te := (tCall (sp_is_number K c) [] E0 (tCons (tVar 1) (tCons (tC (.int 1)) tNil)))) rfl sc_sAskedSet.nd (pi_list (pv 0)) (blkOk_by (N := ["weights", "weight"]) (sc := defScope sAskedSet) (by decide +kernel)) (fun _ _ _ _ _ => (pg_name (i := 1) sc_sAskedSet.nd rfl (Or.inl rfl))) (fun _ _ _ _ _ => pts_nil) (fun _ _ _ _ _ => (pe_call G_is_number.ok (hr.mono (by decide)) (by rfl) G_is_number.g G_is_number.kp G_is_number.b .nil pass0 (pa_cons (pv 1) (pa_cons pe_int pa_nil))))) pa_nil))))))) (pss_one (ps_raise (W := fun cls d _ H => E cls d H) rfl (takes_of rfl rfl rfl rfl) (pmk_own PySem.F.excBase_ValueError T.xc_BadSet T.g_BadSet T.kp_BadSet (raises_own T.be_BadSet T.ty_BadSet) (by rfl)))) pss_nil)), ?_⟩
      refine w_start (σ := [some _, none]) rfl ?_
      wtm_at "w"
      refine v_isi (.ty _) (tyx_list hS) (kit_ty kb_ll) ?_
      wtm_at "w"
      refine v_iff rfl ?_
      wtm_at "w"
      refine v_lcI (σ2 := fun n => [some (.ref a), some (.int n)]) (fun _ => true) (fun n => .bl (decide (1 ≤ n))) hS hz (fun _ => rfl) (fun _ _ => rfl) (fun n H' _ _ R h => t_yes h) (fun n H' hn _ s1 R h => ?_) (fun D H2 hD s2 d2 => ?_)
      · wtm_at "w"
        exact c_is_number trivial h
      · rw [filter_yes, map_bl] at d2
        wtm_at "w"
        refine v_all (sq_h d2) ?_
        wtm_at "w"
        rw [all_map, show (ns.all fun n => decide (1 ≤ n)) = true from List.all_eq_true.mpr fun x hx => decide_eq_true (hp x hx)]
        refine v_iff rfl ?_
        wtm_at "w"
        exact k _ s2
    · refine ⟨(tIfS (tOr (tNot (tB (tCB (rIsi K) (tCons (tVar 0) (tCons (tC (.ty "list")) tNil))))) (tNot (tB (tCB (rAll K) (tCons (tLc (iList K (tVar 0)) (gName 1) tYes (tCall (sp_is_number K c) [] E0 (tCons (tVar 1) (tCons (tC (.int 1)) tNil))) [1]) tNil))))) (tRaiseC E (.ref c.BadSet)) tNext), (pss_one (ps_if (PW.pt (pw_or (pt_not (pt_val (pe_callB call_isi (by rfl) T.z_isinstance bt_isinstance (pa_cons (pv 0) (pa_cons (pe_bltn (v := .ty "list") (by rfl) T.z_list bt_list rfl) pa_nil))))) (pw_or1 (pt_not (pt_val (pe_callB (cr_all rfl) (by rfl) T.z_all bt_all (pa_cons (pe_lc (own := [("weight", 1)]) (g := gName 1) (tt := tYes) (te := (tCall (sp_is_number K c) [] E0 (tCons (tVar 1) (tCons (tC (.int 1)) tNil)))) rfl sc_sAskedSet.nd (pi_list (pv 0)) (blkOk_by (N := ["weights", "weight"]) (sc := defScope sAskedSet) (by decide +kernel)) (fun _ _ _ _ _ => (pg_name (i := 1) sc_sAskedSet.nd rfl (Or.inl rfl))) (fun _ _ _ _ _ => pts_nil) (fun _ _ _ _ _ => (pe_call G_is_number.ok (hr.mono (by decide)) (by rfl) G_is_number.g G_is_number.kp G_is_number.b .nil pass0 (pa_cons (pv 1) (pa_cons pe_int pa_nil))))) pa_nil))))))) (pss_one (ps_raise (W := fun cls d _ H => E cls d H) rfl (takes_of rfl rfl rfl rfl) (pmk_own PySem.F.excBase_ValueError T.xc_BadSet T.g_BadSet T.kp_BadSet (raises_own T.be_BadSet T.ty_BadSet) (by rfl)))) pss_nil)), ?_⟩
      refine w_start (σ := [some _, none]) rfl ?_
      wtm_at "w"
      rcases hb with ⟨t, h1, h2⟩ | ⟨a, xs, rfl, h2, h3, h4, h5⟩
      · refine v_isi (.ty _) h1 h2 ?_
        wtm_at "w"
        refine v_ift rfl ?_
        refine v_ift rfl ?_
        refine w_raise ?_
        exact k _ (Same.refl _)
      · refine v_isi (.ty _) (tyx_list (sq_h h2)) (kit_ty kb_ll) ?_
        wtm_at "w"
        refine v_iff rfl ?_
        wtm_at "w"
        refine v_lcG (emb := fun v : V => v) (ns := xs) (σ2 := fun v => [some (.ref a), some v]) (H0 := H) (fun _ => true) (fun v => .bl (isNum v 1)) (by rw [List.map_id']; exact sq_h h2) (by omega) (fun n H' R _ _ h => h H' (Same.refl _)) (fun _ _ => rfl) (fun n H' _ _ R h => t_yes h) (fun v H' hv _ s1 R h => ?_) (fun D H2 hD s2 d2 => ?_)
        · wtm_at "w"
          exact c_is_number (h4 v hv H' s1) h
        · rw [filter_yes, map_bl] at d2
          wtm_at "w"
          refine v_all (sq_h d2) ?_
          wtm_at "w"
          have e : (xs.map fun v => isNum v 1).all id = false := by rw [List.all_map]; exact h5
          rw [e]
          refine v_ift rfl ?_
          refine w_raise ?_
          exact k _ s2
/-! ### first_missing -/
def sp_first_missing (K : PySem.W.Frag) (_ : Ca) : Sp := fun vs H Q _ => ∃ a ns, vs = [.ref a] ∧ SqL K H a (ns.map V.int) ∧ Ret (.int (fm ns)) H Q
theorem c_first_missing {a : Addr} {ns : List Int} {H : Hp} {Q : VK} {E : XK} (h : SqL K H a (ns.map V.int)) (k : ∀ H2, Same H H2 → Q (.int (fm ns)) H2) : sp_first_missing K c [.ref a] H Q E := ⟨a, ns, rfl, h, k⟩
theorem ok_first_missing {f : Addr} {fd : FuncData} (A : At K mg "first_missing" sFirstMissing ["weights"] f fd) (T : Tx K mg c) : FnAt P w K mg base CX0 1 "first_missing" ["weights"] (sp_first_missing K c) f fd := by
  refine ⟨A.g, A.F.kp, A.b, A.F.ok sc_sFirstMissing (fun vs H Q E h => ?_) (fun cdv Ar outer s H vs Q E hr h => ?_)⟩
  · obtain ⟨a, ns, rfl, _⟩ := h
    rfl
  · obtain ⟨a, ns, rfl, hS, k⟩ := h
    refine ⟨(tSeq (tAsg (tC (.int 1)) (gName 1))
  (tSeq (tFor (iList K (tCB (rSortedI K) (tCons (tVar 0) tNil))) (gName 2) (tIfS (tTest (tOp (rI0 fun i j => .bl (decide (i ≤ j))) (tVar 2) (tVar 1))) (tAsg (tOp (rI0 fun i j => .int (i + j)) (tVar 1) (tVar 2)) (gName 1)) tNext))
  (tRet (tVar 1)))), (pss_cons (ps_set (i := 1) sc_sFirstMissing.nd rfl (Or.inl rfl) pe_int)
  (pss_cons (ps_for PassesOwn.never rfl (pi_list (pe_callB cr_sortedI (by rfl) T.z_sorted bt_sorted (pa_cons (pv 0) pa_nil))) (pg_name (i := 2) sc_sFirstMissing.nd rfl (Or.inl rfl)) (pss_one (ps_if (pt_cmpR op_le (pv 2) (pv 1) (nomark _)) (pss_one (ps_set (i := 1) sc_sFirstMissing.nd rfl (Or.inl rfl) (pe_op op_add (pv 1) (pv 2)))) pss_nil)))
  (pss_one (ps_ret (pv 1))))), ?_⟩
    refine w_start (σ := [some _, none, none]) rfl ?_
    wtm_at "w"
    refine v_sorted hS fun p H2 hp s2 d2 => ?_
    refine v_forI (sq_h d2) (fun r σ' H' => ∃ (f : Int) (y : Option V), σ' = [some (.ref a), some (.int f), y] ∧ r.foldl fstep f = fm ns ∧ Same H2 H') ⟨1, none, rfl, rfl, Same.refl _⟩ (fun r σ' H' h => h.choose_spec.choose_spec.2.2.seq (sq_h d2)) ?_ ?_
    · rintro pre n r σ' H' _ ⟨f, y, rfl, e, s⟩
      wtm_at "w"
      refine v_if (fun hc => ?_) (fun hc => ?_)
      · wtm_at "w"
        refine ⟨f + n, _, rfl, ?_, s⟩
        rw [← e]
        show _ = r.foldl fstep (fstep f n)
        rw [show fstep f n = f + n from if_pos (of_decide_eq_true hc)]
      · wtm_at "w"
        refine ⟨f, _, rfl, ?_, s⟩
        rw [← e]
        show _ = r.foldl fstep (fstep f n)
        rw [show fstep f n = f from if_neg (of_decide_eq_false hc)]
    · rintro σ' H' ⟨f, y, rfl, e, s⟩
      wtm_at "w"
      have e' : f = fm ns := e
      rw [e']
      exact k _ (s2.trans s)
/-! ### asked_most -/
def sp_asked_most (K : PySem.W.Frag) (c : Ca) : Sp := fun vs H Q E => (∃ m, vs = [.int m] ∧ 0 ≤ m ∧ Ret .non H Q) ∨ ∃ x, vs = [x] ∧ Okd K H x ∧ isNum x 0 = false ∧ Exc E c.BadNumber H
theorem c_asked_most {m : Int} {H : Hp} {Q : VK} {E : XK} (h : 0 ≤ m) (k : ∀ H2, Same H H2 → Q .non H2) : sp_asked_most K c [.int m] H Q E := .inl ⟨m, rfl, h, k⟩
theorem b_asked_most {x : V} {H : Hp} {Q : VK} {E : XK} (h : Okd K H x) (h0 : isNum x 0 = false) (k : ∀ H2, Same H H2 → E (.ref c.BadNumber) none H2) : sp_asked_most K c [x] H Q E := .inr ⟨x, rfl, h, h0, k⟩
theorem ok_asked_most {f f0 : Addr} {fd fd0 : FuncData} (A : At K mg "asked_most" sAskedMost ["most"] f fd) (T : Tx K mg c) (G_is_number : FnAt P w K mg base CX0 1 "is_number" ["thing", "least"] (sp_is_number K c) f0 fd0) : FnAt P w K mg base (L2.CX P w) 2 "asked_most" ["most"] (sp_asked_most K c) f fd := by
  refine ⟨A.g, A.F.kp, A.b, A.F.okX sc_sAskedMost (fun vs H Q E h => ?_) (fun cdv Ar outer s H vs Q E hr h => ?_)⟩
  · rcases h with ⟨m, rfl, _⟩ | ⟨x, rfl, _⟩ <;> rfl
  · rcases h with ⟨m, rfl, hm, k⟩ | ⟨x, rfl, ho, h0, k⟩
    · refine ⟨(tIfS (tNot (tB (tCall (sp_is_number K c) [] E0 (tCons (tVar 0) (tCons (tC (.int 0)) tNil))))) (tRaiseC E (.ref c.BadNumber)) tNext), (pss_one (ps_if (pt_not (pt_val (pe_call G_is_number.ok (hr.mono (by decide)) (by rfl) G_is_number.g G_is_number.kp G_is_number.b .nil pass0 (pa_cons (pv 0) (pa_cons pe_int pa_nil))))) (pss_one (ps_raise (W := fun cls d _ H => E cls d H) rfl (takes_of rfl rfl rfl rfl) (pmk_own PySem.F.excBase_ValueError T.xc_BadNumber T.g_BadNumber T.kp_BadNumber (raises_own T.be_BadNumber T.ty_BadNumber) (by rfl)))) pss_nil)), ?_⟩
      refine w_start (σ := [some _]) rfl ?_
      wtm_at "w"
      refine c_is_number trivial fun H2 s2 => ?_
      wtm_at "w"
      refine v_iff (show (!decide (0 ≤ m)) = false by rw [decide_eq_true hm]; rfl) ?_
      wtm_at "w"
      exact k _ s2
    · refine ⟨(tIfS (tNot (tB (tCall (sp_is_number K c) [] E0 (tCons (tVar 0) (tCons (tC (.int 0)) tNil))))) (tRaiseC E (.ref c.BadNumber)) tNext), (pss_one (ps_if (pt_not (pt_val (pe_call G_is_number.ok (hr.mono (by decide)) (by rfl) G_is_number.g G_is_number.kp G_is_number.b .nil pass0 (pa_cons (pv 0) (pa_cons pe_int pa_nil))))) (pss_one (ps_raise (W := fun cls d _ H => E cls d H) rfl (takes_of rfl rfl rfl rfl) (pmk_own PySem.F.excBase_ValueError T.xc_BadNumber T.g_BadNumber T.kp_BadNumber (raises_own T.be_BadNumber T.ty_BadNumber) (by rfl)))) pss_nil)), ?_⟩
      refine w_start (σ := [some _]) rfl ?_
      wtm_at "w"
      refine c_is_number ho fun H2 s2 => ?_
      wtm_at "w"
      refine v_ift (by rw [h0]; rfl) ?_
      refine w_raise ?_
      exact k _ s2
/-! ### first_gap -/
def sp_first_gap (K : PySem.W.Frag) (c : Ca) : Sp := fun vs H Q E => (∃ a ns, vs = [.ref a] ∧ SqL K H a (ns.map V.int) ∧ Pos ns ∧ ns.length ≤ 16777215 ∧ Ret (.int (fm ns)) H Q) ∨ ∃ x, vs = [x] ∧ BadS K H x ∧ Exc E c.BadSet H
theorem c_first_gap {a : Addr} {ns : List Int} {H : Hp} {Q : VK} {E : XK} (h : SqL K H a (ns.map V.int)) (hp : Pos ns) (hz : ns.length ≤ 16777215) (k : ∀ H2, Same H H2 → Q (.int (fm ns)) H2) : sp_first_gap K c [.ref a] H Q E := .inl ⟨a, ns, rfl, h, hp, hz, k⟩
theorem ok_first_gap {f f0 f1 : Addr} {fd fd0 fd1 : FuncData} (A : At K mg "first_gap" sFirstGap ["weights"] f fd) (T : Tx K mg c) (G_asked_set : FnAt P w K mg base (L2.CX P w) 2 "asked_set" ["weights"] (sp_asked_set K c) f0 fd0) (G_first_missing : FnAt P w K mg base CX0 1 "first_missing" ["weights"] (sp_first_missing K c) f1 fd1) : FnAt P w K mg base (L2.CX P w) 3 "first_gap" ["weights"] (sp_first_gap K c) f fd := by
  refine ⟨A.g, A.F.kp, A.b, A.F.okX sc_sFirstGap (fun vs H Q E h => ?_) (fun cdv Ar outer s H vs Q E hr h => ?_)⟩
  · rcases h with ⟨a, ns, rfl, _⟩ | ⟨x, rfl, _⟩ <;> rfl
  · rcases h with ⟨a, ns, rfl, hS, hp, hz, k⟩ | ⟨x, rfl, hb, k⟩
    · refine ⟨(tSeq (tDrop (tCall (sp_asked_set K c) [] E (tCons (tVar 0) tNil)))
  (tRet (tCall (sp_first_missing K c) [] E0 (tCons (tVar 0) tNil)))), (pss_cons (ps_expr (pe_call G_asked_set.ok (hr.mono (by decide)) (by rfl) G_asked_set.g G_asked_set.kp G_asked_set.b .nil (passes_call (takes_of rfl rfl rfl rfl) fun _ _ _ _ h => h) (pa_cons (pv 0) pa_nil)))
  (pss_one (ps_ret (pe_call G_first_missing.ok (hr.mono (by decide)) (by rfl) G_first_missing.g G_first_missing.kp G_first_missing.b .nil pass0 (pa_cons (pv 0) pa_nil))))), ?_⟩
      refine w_start (σ := [some _]) rfl ?_
      wtm_at "w"
      refine c_asked_set hS hp hz fun H2 s2 => ?_
      wtm_at "w"
      refine c_first_missing (s2.seq hS) fun H3 s3 => ?_
      exact k _ (s2.trans s3)
    · refine ⟨(tSeq (tDrop (tCall (sp_asked_set K c) [] E (tCons (tVar 0) tNil)))
  (tRet (tCall (sp_first_missing K c) [] E0 (tCons (tVar 0) tNil)))), (pss_cons (ps_expr (pe_call G_asked_set.ok (hr.mono (by decide)) (by rfl) G_asked_set.g G_asked_set.kp G_asked_set.b .nil (passes_call (takes_of rfl rfl rfl rfl) fun _ _ _ _ h => h) (pa_cons (pv 0) pa_nil)))
  (pss_one (ps_ret (pe_call G_first_missing.ok (hr.mono (by decide)) (by rfl) G_first_missing.g G_first_missing.kp G_first_missing.b .nil pass0 (pa_cons (pv 0) pa_nil))))), ?_⟩
      refine w_start (σ := [some _]) rfl ?_
      wtm_at "w"
      exact b_asked_set hb k
theorem b_first_gap {x : V} {H : Hp} {Q : VK} {E : XK} (h : BadS K H x) (k : ∀ H2, Same H H2 → E (.ref c.BadSet) none H2) : sp_first_gap K c [x] H Q E := .inr ⟨x, rfl, h, k⟩
/-! ### weighing, without -/
def sp_weighing (K : PySem.W.Frag) (c : Ca) : Sp := fun vs H Q E => (∃ (a : Addr) (ws : List Int) (n : Int), vs = [.ref a, .int n] ∧ SqL K H a (ws.map V.int) ∧ Pos ws ∧ ws.length ≤ 16777214 ∧ 0 ≤ n ∧ n < fm ws ∧ RetL (wg ws n) H Q) ∨ (∃ x y, vs = [x, y] ∧ BadS K H x ∧ Exc E c.BadSet H) ∨ ∃ (a : Addr) (ws : List Int) (y : V), vs = [.ref a, y] ∧ SqL K H a (ws.map V.int) ∧ Pos ws ∧ ws.length ≤ 8000000 ∧ BadN K H y 0 (fm ws) ∧ Exc E c.BadNumber H
theorem c_weighing {a : Addr} {ws : List Int} {n : Int} {H : Hp} {Q : VK} {E : XK} (h : SqL K H a (ws.map V.int)) (hp : Pos ws) (hz : ws.length ≤ 16777214) (h0 : 0 ≤ n) (h1 : n < fm ws) (k : ∀ p H2, H p = none → Same H H2 → H2 p = some (.lst ((wg ws n).map V.int)) → Q (.ref p) H2) :
    sp_weighing K c [.ref a, .int n] H Q E := .inl ⟨a, ws, n, rfl, h, hp, hz, h0, h1, k⟩
theorem ok_weighing {f f0 f1 f2 : Addr} {fd fd0 fd1 fd2 : FuncData} (A : At K mg "weighing" sWeighing ["weights", "number"] f fd) (T : Tx K mg c) (G_is_number : FnAt P w K mg base CX0 1 "is_number" ["thing", "least"] (sp_is_number K c) f0 fd0) (G_asked_set : FnAt P w K mg base (L2.CX P w) 2 "asked_set" ["weights"] (sp_asked_set K c) f1 fd1) (G_first_missing : FnAt P w K mg base CX0 1 "first_missing" ["weights"] (sp_first_missing K c) f2 fd2) : FnAt P w K mg base (L2.CX P w) 3 "weighing" ["weights", "number"] (sp_weighing K c) f fd := by
  refine ⟨A.g, A.F.kp, A.b, A.F.okX sc_sWeighing (fun vs H Q E h => ?_) (fun cdv Ar outer s H vs Q E hr h => ?_)⟩
  · rcases h with ⟨a, ws, n, rfl, _⟩ | ⟨x, y, rfl, _⟩ | ⟨a, ws, y, rfl, _⟩ <;> rfl
  · rcases h with ⟨a, ws, n, rfl, hS, hp, hz, h0, h1, k⟩ | ⟨x, y, rfl, hb, k⟩ | ⟨a, ws, y, rfl, hS, hp, hz, hb, k⟩
    · refine ⟨(tSeq (tDrop (tCall (sp_asked_set K c) [] E (tCons (tVar 0) tNil)))
  (tSeq (tIfS (tOr (tNot (tB (tCall (sp_is_number K c) [] E0 (tCons (tVar 1) (tCons (tC (.int 0)) tNil))))) (tTest (tOp (rI0 fun i j => .bl (decide (j ≤ i))) (tVar 1) (tCall (sp_first_missing K c) [] E0 (tCons (tVar 0) tNil))))) (tRaiseC E (.ref c.BadNumber)) tNext)
  (tSeq (tAsg (tLst tNil) (gName 2))
  (tSeq (tAsg (tVar 1) (gName 3))
  (tSeq (tFor (iList K (tRevL K (tCB (rSortedPO K) (tCons (tLc (iEnum K (tCons (tVar 0) tNil)) (gTup K 2 (gCons (gName 5) (gCons (gName 4) gNil))) tYes (tTup (tCons (tVar 4) (tCons (tVar 5) tNil))) [5, 4]) tNil)))) (gTup K 2 (gCons (gName 4) (gCons (gName 5) gNil))) (tIfS (tTest (tOp (rI0 fun i j => .bl (decide (i ≤ j))) (tVar 4) (tVar 3))) (tSeq (tDrop (tBM K "list" rAppend (tVar 2) (tCons (tVar 5) tNil)))
  (tAsg (tOp (rI0 fun i j => .int (i - j)) (tVar 3) (tVar 4)) (gName 3))) tNext))
  (tRet (tCB (rSortedI K) (tCons (tVar 2) tNil)))))))), (pss_cons (ps_expr (pe_call G_asked_set.ok (hr.mono (by decide)) (by rfl) G_asked_set.g G_asked_set.kp G_asked_set.b .nil (passes_call (takes_of rfl rfl rfl rfl) fun _ _ _ _ h => h) (pa_cons (pv 0) pa_nil)))
  (pss_cons (ps_if (PW.pt (pw_or (pt_not (pt_val (pe_call G_is_number.ok (hr.mono (by decide)) (by rfl) G_is_number.g G_is_number.kp G_is_number.b .nil pass0 (pa_cons (pv 1) (pa_cons pe_int pa_nil))))) (pw_or1 (pt_cmpR op_ge (pv 1) (pe_call G_first_missing.ok (hr.mono (by decide)) (by rfl) G_first_missing.g G_first_missing.kp G_first_missing.b .nil pass0 (pa_cons (pv 0) pa_nil)) (nomark _))))) (pss_one (ps_raise (W := fun cls d _ H => E cls d H) rfl (takes_of rfl rfl rfl rfl) (pmk_own PySem.F.excBase_ValueError T.xc_BadNumber T.g_BadNumber T.kp_BadNumber (raises_own T.be_BadNumber T.ty_BadNumber) (by rfl)))) pss_nil)
  (pss_cons (ps_set (i := 2) sc_sWeighing.nd rfl (Or.inl rfl) (pe_lst pa_nil))
  (pss_cons (ps_set (i := 3) sc_sWeighing.nd rfl (Or.inl rfl) (pv 1))
  (pss_cons (ps_for (passes_of rfl) rfl (pi_list (pe_revL (pe_callB cr_sortedPO (by rfl) T.z_sorted bt_sorted (pa_cons (pe_lc (own := [("place", 5), ("weight", 4)]) (g := gTup K 2 (gCons (gName 5) (gCons (gName 4) gNil))) (tt := tYes) (te := (tTup (tCons (tVar 4) (tCons (tVar 5) tNil)))) rfl sc_sWeighing.nd (pi_enum (by rfl) T.z_enumerate (pa_cons (pv 0) pa_nil)) (blkOk_by (N := ["weights", "number", "found", "left", "weight", "place"]) (sc := defScope sWeighing) (by decide +kernel)) (fun _ _ _ _ _ => (pg_tup rfl (pgs_cons (pg_name (i := 5) sc_sWeighing.nd rfl (Or.inl rfl)) (pgs_cons (pg_name (i := 4) sc_sWeighing.nd rfl (Or.inl rfl)) pgs_nil)))) (fun _ _ _ _ _ => pts_nil) (fun _ _ _ _ _ => (pe_tup (pa_cons (pv 4) (pa_cons (pv 5) pa_nil))))) pa_nil)))) (pg_tup rfl (pgs_cons (pg_name (i := 4) sc_sWeighing.nd rfl (Or.inl rfl)) (pgs_cons (pg_name (i := 5) sc_sWeighing.nd rfl (Or.inl rfl)) pgs_nil))) (pss_one (ps_if (pt_cmpR op_le (pv 4) (pv 3) (nomark _)) (pss_cons (ps_expr (pe_bm PySem.F.plainAttrs_list PySem.F.slot_list_append PySem.F.type_list_append mt_append (pv 2) (pa_cons (pv 5) pa_nil)))
      (pss_one (ps_set (i := 3) sc_sWeighing.nd rfl (Or.inl rfl) (pe_op op_sub (pv 3) (pv 4))))) pss_nil)))
  (pss_one (ps_ret (pe_callB cr_sortedI (by rfl) T.z_sorted bt_sorted (pa_cons (pv 2) pa_nil))))))))), ?_⟩
      refine w_start (σ := [some _, some _, none, none, none, none]) rfl ?_
      wtm_at "w"
      refine c_asked_set hS hp (by omega) fun H2 s2 => ?_
      wtm_at "w"
      refine c_is_number trivial fun H3 s3 => ?_
      wtm_at "w"
      refine v_iff (show (!decide (0 ≤ n)) = false by rw [decide_eq_true h0]; rfl) ?_
      wtm_at "w"
      refine c_first_missing (by wtm_at "sq") fun H4 s4 => ?_
      wtm_at "w"
      refine v_iff (decide_eq_false (by omega)) ?_
      have sA := (s2.trans s3).trans s4
      wtm_at "w"
      refine v_newL (n := 0) (by decide) fun l H5 n5 s5 d5 => ?_
      wtm_at "w"
      have sB := sA.trans s5
      have nl : H l = none := sA.free n5
      refine v_lcE (σ2 := fun i n2 => [some (.ref a), some (.int n), some (.ref l), some (.int n), some (.int n2), some (.int (i : Int))]) (fun i n2 y H => PairAt H y n2 (i : Int)) (sB.seq hS) (by omega) (fun _ _ => rfl) (fun _ _ => rfl) (fun _ _ _ _ _ s h => h.same s) (fun _ _ _ _ _ _ _ hD h => h.stay hD) (fun i n2 H' hn s R h => ?_) (fun D H6 ys hD s6 d6 hl hr => ?_)
      · wtm_at "w"
        exact v_newL (n := 2) (by decide) fun t H6 n6 s6 d6 => h _ _ s6 ⟨t, rfl, d6⟩
      wtm_at "w"
      refine v_sortedP (ps := prs ws) (sq_h d6) (by rw [prs_length, hl]) (fun i v q hv hq => ?_) fun p H7 zs hn7 s7 d7 hk7 hm7 => ?_
      · have hi : i < ws.length := by
          have := (List.getElem?_eq_some_iff.mp hq).1
          rwa [prs_length] at this
        have e := prs_get (List.getElem?_eq_getElem hi)
        rw [hq] at e
        have e2 := Option.some.inj e
        rw [e2]
        exact hr i _ v (List.getElem?_eq_getElem hi) hv
      wtm_at "w"
      refine ⟨p, zs, rfl, sq_h d7, v_new fun p8 H8 n8 s8 d8 => ?_⟩
      have hk8 : ∀ y ∈ zs.reverse, PairAt H8 y (kf H6 y).1 (kf H6 y).2 := fun y hy => (hk7 y (List.mem_reverse.mp hy)).same s8
      have hm8 : zs.reverse.map (kf H6) = (srtP (prs ws)).reverse := by rw [List.map_reverse, hm7]
      have hlz : zs.reverse.length = ws.length := by
        have := congrArg List.length hm8
        rw [List.length_map, List.length_reverse, List.length_reverse, (srtP_perm _).length_eq, prs_length] at this
        rw [List.length_reverse]
        exact this
      have sC := ((sB.trans s6).trans s7).trans s8
      have dl := s8 _ _ (s7 _ _ (s6 _ _ d5))
      refine v_forG (emb := fun v : V => v) (ns := zs.reverse) (by rw [List.map_id']; exact sq_h d8) (fun r σ' H' => ∃ (left : Int) (acc : List Int) (y4 y5 : Option V), σ' = [some (.ref a), some (.int n), some (.ref l), some (.int left), y4, y5] ∧
        acc ++ (gr left (r.map (kf H6))).map (·.2) = (gr n (srtP (prs ws)).reverse).map (·.2) ∧ acc.length + r.length ≤ ws.length ∧ Same H H' ∧ (∀ y ∈ zs.reverse, PairAt H' y (kf H6 y).1 (kf H6 y).2) ∧ SqL K H' p8 zs.reverse ∧ H' l = some (.lst (acc.map V.int)))
        ⟨n, [], none, none, rfl, by rw [hm8]; rfl, by rw [hlz]; simp, sC, hk8, sq_h d8, dl⟩ (fun r σ' H' h => by obtain ⟨_, _, _, _, _, _, _, _, _, s, _⟩ := h; rw [List.map_id']; exact s) ?_ ?_
      · rintro pre v r σ' H' hmem ⟨left, acc, y4, y5, rfl, hg, hac, s9, hk9, d9, e9⟩
        have hv : v ∈ zs.reverse := by rw [hmem]; exact List.mem_append.mpr (.inr List.mem_cons_self)
        obtain ⟨t, ht1, ht2⟩ := hk9 v hv
        subst ht1
        rw [List.map_cons] at hg
        generalize hq : kf H6 (.ref t) = q at hg ht2
        obtain ⟨w1, pl⟩ := q
        refine g_pair (st_h ht2) ?_
        wtm_at "w"
        have hg2 : acc ++ (if w1 ≤ left then (w1, pl) :: gr (left - w1) (r.map (kf H6)) else gr left (r.map (kf H6))).map (·.2) = (gr n (srtP (prs ws)).reverse).map (·.2) := hg
        refine v_if (fun hc => ?_) (fun hc => ?_)
        · have hle := of_decide_eq_true hc
          rw [if_pos hle] at hg2
          wtm_at "w"
          refine v_ty (sq_h e9) ?_
          wtm_at "w"
          refine v_app e9 (by rw [List.length_map]; omega) ?_
          wtm_at "w"
          refine ⟨left - w1, acc ++ [pl], some (.int w1), some (.int pl), rfl, ?_, ?_, same_mut s9 nl, fun y hy => (hk9 y hy).stay e9, ?_, ?_⟩
          · rw [← hg2, List.append_assoc]
            rfl
          · rw [List.length_append, List.length_singleton]
            rw [List.length_cons] at hac
            omega
          · have nlp : p8 ≠ l := by
              intro e
              rw [e] at n8
              rw [s7 _ _ (s6 _ _ d5)] at n8
              cases n8
            rcases d9 with (d9 | ⟨o, d9⟩) | d9
            · exact .inl (.inl (by rw [upd_ne nlp]; exact d9))
            · exact .inl (.inr ⟨o, by rw [upd_ne nlp]; exact d9⟩)
            · exact .inr d9
          · rw [upd_same, List.map_append]
            rfl
        · have hle := of_decide_eq_false hc
          rw [if_neg hle] at hg2
          wtm_at "w"
          exact ⟨left, acc, some (.int w1), some (.int pl), rfl, hg2, by rw [List.length_cons] at hac; omega, s9, hk9, d9, e9⟩
      · rintro σ' H' ⟨left, acc, y4, y5, rfl, hg, hac, s9, hk9, d9, e9⟩
        have hg2 : acc = (gr n (srtP (prs ws)).reverse).map (·.2) := by
          rw [← hg]
          show acc = acc ++ []
          rw [List.append_nil]
        wtm_at "w"
        refine v_sorted (sq_h e9) fun q H10 n10 s10 d10 => ?_
        rw [hg2] at d10
        exact k q H10 (s9.free n10) (s9.trans s10) d10
    · refine ⟨(tSeq (tDrop (tCall (sp_asked_set K c) [] E (tCons (tVar 0) tNil)))
  (tSeq (tIfS (tOr (tNot (tB (tCall (sp_is_number K c) [] E0 (tCons (tVar 1) (tCons (tC (.int 0)) tNil))))) (tTest (tOp (rI0 fun i j => .bl (decide (j ≤ i))) (tVar 1) (tCall (sp_first_missing K c) [] E0 (tCons (tVar 0) tNil))))) (tRaiseC E (.ref c.BadNumber)) tNext)
  (tSeq (tAsg (tLst tNil) (gName 2))
  (tSeq (tAsg (tVar 1) (gName 3))
  (tSeq (tFor (iList K (tRevL K (tCB (rSortedPO K) (tCons (tLc (iEnum K (tCons (tVar 0) tNil)) (gTup K 2 (gCons (gName 5) (gCons (gName 4) gNil))) tYes (tTup (tCons (tVar 4) (tCons (tVar 5) tNil))) [5, 4]) tNil)))) (gTup K 2 (gCons (gName 4) (gCons (gName 5) gNil))) (tIfS (tTest (tOp (rI0 fun i j => .bl (decide (i ≤ j))) (tVar 4) (tVar 3))) (tSeq (tDrop (tBM K "list" rAppend (tVar 2) (tCons (tVar 5) tNil)))
  (tAsg (tOp (rI0 fun i j => .int (i - j)) (tVar 3) (tVar 4)) (gName 3))) tNext))
  (tRet (tCB (rSortedI K) (tCons (tVar 2) tNil)))))))), (pss_cons (ps_expr (pe_call G_asked_set.ok (hr.mono (by decide)) (by rfl) G_asked_set.g G_asked_set.kp G_asked_set.b .nil (passes_call (takes_of rfl rfl rfl rfl) fun _ _ _ _ h => h) (pa_cons (pv 0) pa_nil)))
  (pss_cons (ps_if (PW.pt (pw_or (pt_not (pt_val (pe_call G_is_number.ok (hr.mono (by decide)) (by rfl) G_is_number.g G_is_number.kp G_is_number.b .nil pass0 (pa_cons (pv 1) (pa_cons pe_int pa_nil))))) (pw_or1 (pt_cmpR op_ge (pv 1) (pe_call G_first_missing.ok (hr.mono (by decide)) (by rfl) G_first_missing.g G_first_missing.kp G_first_missing.b .nil pass0 (pa_cons (pv 0) pa_nil)) (nomark _))))) (pss_one (ps_raise (W := fun cls d _ H => E cls d H) rfl (takes_of rfl rfl rfl rfl) (pmk_own PySem.F.excBase_ValueError T.xc_BadNumber T.g_BadNumber T.kp_BadNumber (raises_own T.be_BadNumber T.ty_BadNumber) (by rfl)))) pss_nil)
  (pss_cons (ps_set (i := 2) sc_sWeighing.nd rfl (Or.inl rfl) (pe_lst pa_nil))
  (pss_cons (ps_set (i := 3) sc_sWeighing.nd rfl (Or.inl rfl) (pv 1))
  (pss_cons (ps_for (passes_of rfl) rfl (pi_list (pe_revL (pe_callB cr_sortedPO (by rfl) T.z_sorted bt_sorted (pa_cons (pe_lc (own := [("place", 5), ("weight", 4)]) (g := gTup K 2 (gCons (gName 5) (gCons (gName 4) gNil))) (tt := tYes) (te := (tTup (tCons (tVar 4) (tCons (tVar 5) tNil)))) rfl sc_sWeighing.nd (pi_enum (by rfl) T.z_enumerate (pa_cons (pv 0) pa_nil)) (blkOk_by (N := ["weights", "number", "found", "left", "weight", "place"]) (sc := defScope sWeighing) (by decide +kernel)) (fun _ _ _ _ _ => (pg_tup rfl (pgs_cons (pg_name (i := 5) sc_sWeighing.nd rfl (Or.inl rfl)) (pgs_cons (pg_name (i := 4) sc_sWeighing.nd rfl (Or.inl rfl)) pgs_nil)))) (fun _ _ _ _ _ => pts_nil) (fun _ _ _ _ _ => (pe_tup (pa_cons (pv 4) (pa_cons (pv 5) pa_nil))))) pa_nil)))) (pg_tup rfl (pgs_cons (pg_name (i := 4) sc_sWeighing.nd rfl (Or.inl rfl)) (pgs_cons (pg_name (i := 5) sc_sWeighing.nd rfl (Or.inl rfl)) pgs_nil))) (pss_one (ps_if (pt_cmpR op_le (pv 4) (pv 3) (nomark _)) (pss_cons (ps_expr (pe_bm PySem.F.plainAttrs_list PySem.F.slot_list_append PySem.F.type_list_append mt_append (pv 2) (pa_cons (pv 5) pa_nil)))
      (pss_one (ps_set (i := 3) sc_sWeighing.nd rfl (Or.inl rfl) (pe_op op_sub (pv 3) (pv 4))))) pss_nil)))
  (pss_one (ps_ret (pe_callB cr_sortedI (by rfl) T.z_sorted bt_sorted (pa_cons (pv 2) pa_nil))))))))), ?_⟩
      refine w_start (σ := [some _, some _, none, none, none, none]) rfl ?_
      wtm_at "w"
      exact b_asked_set hb k
    · refine ⟨(tSeq (tDrop (tCall (sp_asked_set K c) [] E (tCons (tVar 0) tNil)))
  (tSeq (tIfS (tOr (tNot (tB (tCall (sp_is_number K c) [] E0 (tCons (tVar 1) (tCons (tC (.int 0)) tNil))))) (tTest (tOp (rI0 fun i j => .bl (decide (j ≤ i))) (tVar 1) (tCall (sp_first_missing K c) [] E0 (tCons (tVar 0) tNil))))) (tRaiseC E (.ref c.BadNumber)) tNext)
  (tSeq (tAsg (tLst tNil) (gName 2))
  (tSeq (tAsg (tVar 1) (gName 3))
  (tSeq (tFor (iList K (tRevL K (tCB (rSortedPO K) (tCons (tLc (iEnum K (tCons (tVar 0) tNil)) (gTup K 2 (gCons (gName 5) (gCons (gName 4) gNil))) tYes (tTup (tCons (tVar 4) (tCons (tVar 5) tNil))) [5, 4]) tNil)))) (gTup K 2 (gCons (gName 4) (gCons (gName 5) gNil))) (tIfS (tTest (tOp (rI0 fun i j => .bl (decide (i ≤ j))) (tVar 4) (tVar 3))) (tSeq (tDrop (tBM K "list" rAppend (tVar 2) (tCons (tVar 5) tNil)))
  (tAsg (tOp (rI0 fun i j => .int (i - j)) (tVar 3) (tVar 4)) (gName 3))) tNext))
  (tRet (tCB (rSortedI K) (tCons (tVar 2) tNil)))))))), (pss_cons (ps_expr (pe_call G_asked_set.ok (hr.mono (by decide)) (by rfl) G_asked_set.g G_asked_set.kp G_asked_set.b .nil (passes_call (takes_of rfl rfl rfl rfl) fun _ _ _ _ h => h) (pa_cons (pv 0) pa_nil)))
  (pss_cons (ps_if (PW.pt (pw_or (pt_not (pt_val (pe_call G_is_number.ok (hr.mono (by decide)) (by rfl) G_is_number.g G_is_number.kp G_is_number.b .nil pass0 (pa_cons (pv 1) (pa_cons pe_int pa_nil))))) (pw_or1 (pt_cmpR op_ge (pv 1) (pe_call G_first_missing.ok (hr.mono (by decide)) (by rfl) G_first_missing.g G_first_missing.kp G_first_missing.b .nil pass0 (pa_cons (pv 0) pa_nil)) (nomark _))))) (pss_one (ps_raise (W := fun cls d _ H => E cls d H) rfl (takes_of rfl rfl rfl rfl) (pmk_own PySem.F.excBase_ValueError T.xc_BadNumber T.g_BadNumber T.kp_BadNumber (raises_own T.be_BadNumber T.ty_BadNumber) (by rfl)))) pss_nil)
  (pss_cons (ps_set (i := 2) sc_sWeighing.nd rfl (Or.inl rfl) (pe_lst pa_nil))
  (pss_cons (ps_set (i := 3) sc_sWeighing.nd rfl (Or.inl rfl) (pv 1))
  (pss_cons (ps_for (passes_of rfl) rfl (pi_list (pe_revL (pe_callB cr_sortedPO (by rfl) T.z_sorted bt_sorted (pa_cons (pe_lc (own := [("place", 5), ("weight", 4)]) (g := gTup K 2 (gCons (gName 5) (gCons (gName 4) gNil))) (tt := tYes) (te := (tTup (tCons (tVar 4) (tCons (tVar 5) tNil)))) rfl sc_sWeighing.nd (pi_enum (by rfl) T.z_enumerate (pa_cons (pv 0) pa_nil)) (blkOk_by (N := ["weights", "number", "found", "left", "weight", "place"]) (sc := defScope sWeighing) (by decide +kernel)) (fun _ _ _ _ _ => (pg_tup rfl (pgs_cons (pg_name (i := 5) sc_sWeighing.nd rfl (Or.inl rfl)) (pgs_cons (pg_name (i := 4) sc_sWeighing.nd rfl (Or.inl rfl)) pgs_nil)))) (fun _ _ _ _ _ => pts_nil) (fun _ _ _ _ _ => (pe_tup (pa_cons (pv 4) (pa_cons (pv 5) pa_nil))))) pa_nil)))) (pg_tup rfl (pgs_cons (pg_name (i := 4) sc_sWeighing.nd rfl (Or.inl rfl)) (pgs_cons (pg_name (i := 5) sc_sWeighing.nd rfl (Or.inl rfl)) pgs_nil))) (pss_one (ps_if (pt_cmpR op_le (pv 4) (pv 3) (nomark _)) (pss_cons (ps_expr (pe_bm PySem.F.plainAttrs_list PySem.F.slot_list_append PySem.F.type_list_append mt_append (pv 2) (pa_cons (pv 5) pa_nil)))
      (pss_one (ps_set (i := 3) sc_sWeighing.nd rfl (Or.inl rfl) (pe_op op_sub (pv 3) (pv 4))))) pss_nil)))
  (pss_one (ps_ret (pe_callB cr_sortedI (by rfl) T.z_sorted bt_sorted (pa_cons (pv 2) pa_nil))))))))), ?_⟩
      refine w_start (σ := [some _, some _, none, none, none, none]) rfl ?_
      wtm_at "w"
      refine c_asked_set hS hp (by omega) fun H2 s2 => ?_
      wtm_at "w"
      refine c_is_number (hb.1 _ s2) fun H3 s3 => ?_
      wtm_at "w"
      have s23 := s2.trans s3
      have hS3 := s23.seq hS
      rcases hb.2 with h0 | ⟨i, rfl, h0, h1⟩
      · rw [h0]
        refine v_ift rfl ?_
        refine v_ift rfl ?_
        refine w_raise ?_
        exact k _ s23
      · refine v_iff (show (!decide (0 ≤ i)) = false by rw [decide_eq_true h0]; rfl) ?_
        wtm_at "w"
        refine c_first_missing hS3 fun H4 s4 => ?_
        wtm_at "w"
        refine v_ift (decide_eq_true (by omega)) ?_
        refine w_raise ?_
        exact k _ (s23.trans s4)
theorem b_weighing {x y : V} {H : Hp} {Q : VK} {E : XK} (h : BadS K H x) (k : ∀ H2, Same H H2 → E (.ref c.BadSet) none H2) : sp_weighing K c [x, y] H Q E := .inr (.inl ⟨x, y, rfl, h, k⟩)
theorem n_weighing {a : Addr} {ws : List Int} {y : V} {H : Hp} {Q : VK} {E : XK} (h : SqL K H a (ws.map V.int)) (hp : Pos ws) (hz : ws.length ≤ 8000000) (hb : BadN K H y 0 (fm ws)) (k : ∀ H2, Same H H2 → E (.ref c.BadNumber) none H2) : sp_weighing K c [.ref a, y] H Q E := .inr (.inr ⟨a, ws, y, rfl, h, hp, hz, hb, k⟩)
def sp_without (K : PySem.W.Frag) (c : Ca) : Sp := fun vs H Q E => (∃ (a : Addr) (ws : List Int) (n : Int), vs = [.ref a, .int n] ∧ SqL K H a (ws.map V.int) ∧ Pos ws ∧ ws.length ≤ 8000000 ∧ 0 ≤ n ∧ n < ws.length ∧ Ret (.int (fm (ws.take n.toNat ++ ws.drop (n.toNat + 1)))) H Q) ∨ (∃ x y, vs = [x, y] ∧ BadS K H x ∧ Exc E c.BadSet H) ∨ ∃ (a : Addr) (ws : List Int) (y : V), vs = [.ref a, y] ∧ SqL K H a (ws.map V.int) ∧ Pos ws ∧ ws.length ≤ 8000000 ∧ BadN K H y 0 ws.length ∧ Exc E c.BadPlace H
theorem c_without {a : Addr} {ws : List Int} {n : Int} {H : Hp} {Q : VK} {E : XK} (h : SqL K H a (ws.map V.int)) (hp : Pos ws) (hz : ws.length ≤ 8000000) (h0 : 0 ≤ n) (h1 : n < ws.length) (k : ∀ H2, Same H H2 → Q (.int (fm (ws.take n.toNat ++ ws.drop (n.toNat + 1)))) H2) :
    sp_without K c [.ref a, .int n] H Q E := .inl ⟨a, ws, n, rfl, h, hp, hz, h0, h1, k⟩
theorem ok_without {f f0 f1 f2 : Addr} {fd fd0 fd1 fd2 : FuncData} (A : At K mg "without" sWithout ["weights", "place"] f fd) (T : Tx K mg c) (G_is_number : FnAt P w K mg base CX0 1 "is_number" ["thing", "least"] (sp_is_number K c) f0 fd0) (G_asked_set : FnAt P w K mg base (L2.CX P w) 2 "asked_set" ["weights"] (sp_asked_set K c) f1 fd1) (G_first_missing : FnAt P w K mg base CX0 1 "first_missing" ["weights"] (sp_first_missing K c) f2 fd2) : FnAt P w K mg base (L2.CX P w) 3 "without" ["weights", "place"] (sp_without K c) f fd := by
  refine ⟨A.g, A.F.kp, A.b, A.F.okX sc_sWithout (fun vs H Q E h => ?_) (fun cdv Ar outer s H vs Q E hr h => ?_)⟩
  · rcases h with ⟨a, ws, n, rfl, _⟩ | ⟨x, y, rfl, _⟩ | ⟨a, ws, y, rfl, _⟩ <;> rfl
  · rcases h with ⟨a, ws, n, rfl, hS, hp, hz, h0, h1, k⟩ | ⟨x, y, rfl, hb, k⟩ | ⟨a, ws, y, rfl, hS, hp, hz, hb, k⟩
    · refine ⟨(tSeq (tDrop (tCall (sp_asked_set K c) [] E (tCons (tVar 0) tNil)))
  (tSeq (tIfS (tOr (tNot (tB (tCall (sp_is_number K c) [] E0 (tCons (tVar 1) (tCons (tC (.int 0)) tNil))))) (tTest (tOp (rI0 fun i j => .bl (decide (j ≤ i))) (tVar 1) (tCB (rLen K) (tCons (tVar 0) tNil))))) (tRaiseC E (.ref c.BadPlace)) tNext)
  (tRet (tCall (sp_first_missing K c) [] E0 (tCons (tOp rCat (tSl (rSlL K) (tVar 0) tNoPart (tPart (tVar 1))) (tSl (rSlL K) (tVar 0) (tPart (tOp (rI0 fun i j => .int (i + j)) (tVar 1) (tC (.int 1)))) tNoPart)) tNil))))), (pss_cons (ps_expr (pe_call G_asked_set.ok (hr.mono (by decide)) (by rfl) G_asked_set.g G_asked_set.kp G_asked_set.b .nil (passes_call (takes_of rfl rfl rfl rfl) fun _ _ _ _ h => h) (pa_cons (pv 0) pa_nil)))
  (pss_cons (ps_if (PW.pt (pw_or (pt_not (pt_val (pe_call G_is_number.ok (hr.mono (by decide)) (by rfl) G_is_number.g G_is_number.kp G_is_number.b .nil pass0 (pa_cons (pv 1) (pa_cons pe_int pa_nil))))) (pw_or1 (pt_cmpR op_ge (pv 1) (pe_callB call_lenK (by rfl) T.z_len bt_len (pa_cons (pv 0) pa_nil)) (nomark _))))) (pss_one (ps_raise (W := fun cls d _ H => E cls d H) rfl (takes_of rfl rfl rfl rfl) (pmk_own PySem.F.excBase_ValueError T.xc_BadPlace T.g_BadPlace T.kp_BadPlace (raises_own T.be_BadPlace T.ty_BadPlace) (by rfl)))) pss_nil)
  (pss_one (ps_ret (pe_call G_first_missing.ok (hr.mono (by decide)) (by rfl) G_first_missing.g G_first_missing.kp G_first_missing.b .nil pass0 (pa_cons (pe_op op_cat (pe_slice sl_list (pv 0) po_none (po_some (pv 1))) (pe_slice sl_list (pv 0) (po_some (pe_op op_add (pv 1) pe_int)) po_none)) pa_nil)))))), ?_⟩
      refine w_start (σ := [some _, some _]) rfl ?_
      wtm_at "w"
      refine c_asked_set hS hp (by omega) fun H2 s2 => ?_
      wtm_at "w"
      refine c_is_number trivial fun H3 s3 => ?_
      wtm_at "w"
      refine v_iff (show (!decide (0 ≤ n)) = false by rw [decide_eq_true h0]; rfl) ?_
      wtm_at "w"
      have hS3 := (s2.trans s3).seq hS
      refine v_iff (decide_eq_false (by omega)) ?_
      wtm_at "w"
      refine v_sliceT hS3 h0 fun p4 H4 n4 s4 d4 => ?_
      wtm_at "w"
      refine v_sliceF (s4.seq hS3) (by omega) fun p5 H5 n5 s5 d5 => ?_
      wtm_at "w"
      refine v_cat (s5 _ _ d4) d5 (by rw [List.length_take, List.length_drop]; omega) fun p6 H6 n6 s6 d6 => ?_
      wtm_at "w"
      rw [show (n + 1).toNat = n.toNat + 1 by omega] at d6
      refine c_first_missing (sq_h d6) fun H7 s7 => ?_
      exact k _ (((((s2.trans s3).trans s4).trans s5).trans s6).trans s7)
    · refine ⟨(tSeq (tDrop (tCall (sp_asked_set K c) [] E (tCons (tVar 0) tNil)))
  (tSeq (tIfS (tOr (tNot (tB (tCall (sp_is_number K c) [] E0 (tCons (tVar 1) (tCons (tC (.int 0)) tNil))))) (tTest (tOp (rI0 fun i j => .bl (decide (j ≤ i))) (tVar 1) (tCB (rLen K) (tCons (tVar 0) tNil))))) (tRaiseC E (.ref c.BadPlace)) tNext)
  (tRet (tCall (sp_first_missing K c) [] E0 (tCons (tOp rCat (tSl (rSlL K) (tVar 0) tNoPart (tPart (tVar 1))) (tSl (rSlL K) (tVar 0) (tPart (tOp (rI0 fun i j => .int (i + j)) (tVar 1) (tC (.int 1)))) tNoPart)) tNil))))), (pss_cons (ps_expr (pe_call G_asked_set.ok (hr.mono (by decide)) (by rfl) G_asked_set.g G_asked_set.kp G_asked_set.b .nil (passes_call (takes_of rfl rfl rfl rfl) fun _ _ _ _ h => h) (pa_cons (pv 0) pa_nil)))
  (pss_cons (ps_if (PW.pt (pw_or (pt_not (pt_val (pe_call G_is_number.ok (hr.mono (by decide)) (by rfl) G_is_number.g G_is_number.kp G_is_number.b .nil pass0 (pa_cons (pv 1) (pa_cons pe_int pa_nil))))) (pw_or1 (pt_cmpR op_ge (pv 1) (pe_callB call_lenK (by rfl) T.z_len bt_len (pa_cons (pv 0) pa_nil)) (nomark _))))) (pss_one (ps_raise (W := fun cls d _ H => E cls d H) rfl (takes_of rfl rfl rfl rfl) (pmk_own PySem.F.excBase_ValueError T.xc_BadPlace T.g_BadPlace T.kp_BadPlace (raises_own T.be_BadPlace T.ty_BadPlace) (by rfl)))) pss_nil)
  (pss_one (ps_ret (pe_call G_first_missing.ok (hr.mono (by decide)) (by rfl) G_first_missing.g G_first_missing.kp G_first_missing.b .nil pass0 (pa_cons (pe_op op_cat (pe_slice sl_list (pv 0) po_none (po_some (pv 1))) (pe_slice sl_list (pv 0) (po_some (pe_op op_add (pv 1) pe_int)) po_none)) pa_nil)))))), ?_⟩
      refine w_start (σ := [some _, some _]) rfl ?_
      wtm_at "w"
      exact b_asked_set hb k
    · refine ⟨(tSeq (tDrop (tCall (sp_asked_set K c) [] E (tCons (tVar 0) tNil)))
  (tSeq (tIfS (tOr (tNot (tB (tCall (sp_is_number K c) [] E0 (tCons (tVar 1) (tCons (tC (.int 0)) tNil))))) (tTest (tOp (rI0 fun i j => .bl (decide (j ≤ i))) (tVar 1) (tCB (rLen K) (tCons (tVar 0) tNil))))) (tRaiseC E (.ref c.BadPlace)) tNext)
  (tRet (tCall (sp_first_missing K c) [] E0 (tCons (tOp rCat (tSl (rSlL K) (tVar 0) tNoPart (tPart (tVar 1))) (tSl (rSlL K) (tVar 0) (tPart (tOp (rI0 fun i j => .int (i + j)) (tVar 1) (tC (.int 1)))) tNoPart)) tNil))))), (pss_cons (ps_expr (pe_call G_asked_set.ok (hr.mono (by decide)) (by rfl) G_asked_set.g G_asked_set.kp G_asked_set.b .nil (passes_call (takes_of rfl rfl rfl rfl) fun _ _ _ _ h => h) (pa_cons (pv 0) pa_nil)))
  (pss_cons (ps_if (PW.pt (pw_or (pt_not (pt_val (pe_call G_is_number.ok (hr.mono (by decide)) (by rfl) G_is_number.g G_is_number.kp G_is_number.b .nil pass0 (pa_cons (pv 1) (pa_cons pe_int pa_nil))))) (pw_or1 (pt_cmpR op_ge (pv 1) (pe_callB call_lenK (by rfl) T.z_len bt_len (pa_cons (pv 0) pa_nil)) (nomark _))))) (pss_one (ps_raise (W := fun cls d _ H => E cls d H) rfl (takes_of rfl rfl rfl rfl) (pmk_own PySem.F.excBase_ValueError T.xc_BadPlace T.g_BadPlace T.kp_BadPlace (raises_own T.be_BadPlace T.ty_BadPlace) (by rfl)))) pss_nil)
  (pss_one (ps_ret (pe_call G_first_missing.ok (hr.mono (by decide)) (by rfl) G_first_missing.g G_first_missing.kp G_first_missing.b .nil pass0 (pa_cons (pe_op op_cat (pe_slice sl_list (pv 0) po_none (po_some (pv 1))) (pe_slice sl_list (pv 0) (po_some (pe_op op_add (pv 1) pe_int)) po_none)) pa_nil)))))), ?_⟩
      refine w_start (σ := [some _, some _]) rfl ?_
      wtm_at "w"
      refine c_asked_set hS hp (by omega) fun H2 s2 => ?_
      wtm_at "w"
      refine c_is_number (hb.1 _ s2) fun H3 s3 => ?_
      wtm_at "w"
      have s23 := s2.trans s3
      have hS3 := s23.seq hS
      rcases hb.2 with h0 | ⟨i, rfl, h0, h1⟩
      · rw [h0]
        refine v_ift rfl ?_
        refine v_ift rfl ?_
        refine w_raise ?_
        exact k _ s23
      · refine v_iff (show (!decide (0 ≤ i)) = false by rw [decide_eq_true h0]; rfl) ?_
        wtm_at "w"
        refine v_ift (decide_eq_true (by omega)) ?_
        refine w_raise ?_
        exact k _ (s23)
theorem b_without {x y : V} {H : Hp} {Q : VK} {E : XK} (h : BadS K H x) (k : ∀ H2, Same H H2 → E (.ref c.BadSet) none H2) : sp_without K c [x, y] H Q E := .inr (.inl ⟨x, y, rfl, h, k⟩)
theorem n_without {a : Addr} {ws : List Int} {y : V} {H : Hp} {Q : VK} {E : XK} (h : SqL K H a (ws.map V.int)) (hp : Pos ws) (hz : ws.length ≤ 8000000) (hb : BadN K H y 0 ws.length) (k : ∀ H2, Same H H2 → E (.ref c.BadPlace) none H2) : sp_without K c [.ref a, y] H Q E := .inr (.inr ⟨a, ws, y, rfl, h, hp, hz, hb, k⟩)
/-! ### Best -/
abbrev bestF (l k : Addr) : List (Str × V) := [("added", .ref l), ("misses", .ref k)]
theorem am_ : ¬ (("misses" : Str) = "added") := by decide +kernel
theorem ma_ : ¬ (("added" : Str) = "misses") := by decide +kernel
theorem bestF_added (l k : Addr) : (bestF l k).lookup ("added" : Str) = some (.ref l) := lk2a
theorem bestF_misses (l k : Addr) : (bestF l k).lookup ("misses" : Str) = some (.ref k) := lk2b am_
theorem bestF_shows (l k : Addr) : (bestF l k).lookup ("shows" : Str) = none := lk2n (by decide +kernel) (by decide +kernel)
def sp_Best_init (K : PySem.W.Frag) (c : Ca) : Sp := fun vs H Q _ => ∃ (p dx a b : Addr) (xs ys : List Int), vs = [.ref p, .ref a, .ref b] ∧ H p = some (.ins c.Best dx []) ∧ SqL K H a (xs.map V.int) ∧ SqL K H b (ys.map V.int) ∧
  ∀ H' l k, (∀ x o, x ≠ p → H x = some o → H' x = some o) → H' p = some (.ins c.Best dx (bestF l k)) → H' l = some (.lst (xs.map V.int)) → H' k = some (.lst (ys.map V.int)) → H l = none → H k = none → l ≠ k → Q .non H'
theorem c_Best_init {p dx a b : Addr} {xs ys : List Int} {H : Hp} {Q : VK} {E : XK} (h : H p = some (.ins c.Best dx [])) (ha : SqL K H a (xs.map V.int)) (hb : SqL K H b (ys.map V.int))
    (k : ∀ H' l k, (∀ x o, x ≠ p → H x = some o → H' x = some o) → H' p = some (.ins c.Best dx (bestF l k)) → H' l = some (.lst (xs.map V.int)) → H' k = some (.lst (ys.map V.int)) → H l = none → H k = none → l ≠ k → Q .non H') :
    sp_Best_init K c [.ref p, .ref a, .ref b] H Q E := ⟨p, dx, a, b, xs, ys, rfl, h, ha, hb, k⟩
theorem ok_Best_init {f : Addr} {fd : FuncData} (A : AtI K mg c.Best "Best" "Best.__init__" sBestInit ["self", "added", "misses"] f fd) (T : Tx K mg c) : InAt P w K mg base CX0 1 c.Best "Best" ["self", "added", "misses"] (sp_Best_init K c) f fd := by
  refine ⟨A.g, A.m, A.b, A.F.ok sc_sBestInit (fun vs H Q E h => ?_) (fun cdv Ar outer s H vs Q E hr h => ?_)⟩
  · obtain ⟨p, dx, a, b, xs, ys, rfl, _⟩ := h
    rfl
  · obtain ⟨p, dx, a, b, xs, ys, rfl, hp, ha, hb, k⟩ := h
    refine ⟨(tSeq (sFld K (tVar 0) (tCB (rListOf K) (tCons (tVar 1) tNil)) "added")
  (sFld K (tVar 0) (tCB (rListOf K) (tCons (tVar 2) tNil)) "misses")), (pss_cons (ps_fld (pv 0) (pe_callTy call_listK (by rfl) T.z_list bt_list (pa_cons (pv 1) pa_nil)) rfl)
  (pss_one (ps_fld (pv 0) (pe_callTy call_listK (by rfl) T.z_list bt_list (pa_cons (pv 2) pa_nil)) rfl))), ?_⟩
    refine w_start (σ := [some _, some _, some _]) rfl ?_
    wtm_at "w"
    refine v_list ha fun l H1 n1 s1 d1 => ?_
    wtm_at "w"
    have hp1 := s1 _ _ hp
    have npl : p ≠ l := ne_of_none hp n1
    refine ⟨p, _, dx, [], rfl, hp1, T.c_Best, T.n_Best_added, by decide, ?_⟩
    have nb : ∀ {x : Addr} {o : HO}, x ≠ p → H x = some o → upd H1 p (.ins c.Best dx (putF "added" (V.ref l) [])) x = some o := fun hx e => by rw [upd_ne hx]; exact s1 _ _ e
    have hbq : SqL K (upd H1 p (.ins c.Best dx (putF "added" (V.ref l) []))) b (ys.map V.int) := by
      rcases hb with (hb | ⟨o, hb⟩) | hb
      · exact .inl (.inl (nb (ne_of hb hp (by intro z; cases z)) hb))
      · exact .inl (.inr ⟨o, nb (ne_of hb hp (by intro z; cases z)) hb⟩)
      · exact .inr hb
    wtm_at "w"
    refine v_list hbq fun k2 H2 n2 s2 d2 => ?_
    wtm_at "w"
    have npk : k2 ≠ p := fun e => by rw [e, upd_same] at n2; cases n2
    have n2' : H1 k2 = none := by rw [upd_ne npk] at n2; exact n2
    have nlk : l ≠ k2 := ne_of_none d1 n2'
    refine ⟨p, _, dx, _, rfl, s2 _ _ upd_same, T.c_Best, T.n_Best_misses, by show 1 < 1000; decide, ?_⟩
    refine k _ l k2 (fun x o hx e => by rw [upd_ne hx]; exact s2 _ _ (nb hx e)) ?_ ?_ ?_ n1 (s1.free n2') nlk
    · rw [upd_same, putF_two ma_]
    · rw [upd_ne npl.symm]
      exact s2 _ _ (by rw [upd_ne npl.symm]; exact d1)
    · rw [upd_ne npk]
      exact d2
/-! ### fewest -/
def NN : Nat := 10000
theorem len_lt {n : Nat} {R m : Int} (h1 : (2 : Int) ^ n ≤ R + 1) (h2 : R < m) (h3 : m < 2 ^ NN) : n < NN := by
  by_cases c : n < NN
  · exact c
  · have : (2 : Nat) ^ NN ≤ 2 ^ n := Nat.pow_le_pow_right (by decide) (by omega)
    have : (2 : Int) ^ NN ≤ 2 ^ n := by exact_mod_cast this
    omega
def sp_fewest (K : PySem.W.Frag) (c : Ca) : Sp := fun vs H Q E => (∃ (a : Addr) (ws : List Int) (m : Int), vs = [.ref a, .int m] ∧ SqL K H a (ws.map V.int) ∧ Pos ws ∧ ws.length ≤ 16777215 ∧ 0 ≤ m ∧ m < 2 ^ NN ∧
  ∀ p dx l k H2, H p = none → H l = none → H k = none → l ≠ k → Same H H2 → H2 p = some (.ins c.Best dx (bestF l k)) → H2 l = some (.lst ((few ws m).map V.int)) → H2 k = some (.lst ((few ws m).map V.int)) → (few ws m).length ≤ NN → Q (.ref p) H2) ∨ (∃ x y, vs = [x, y] ∧ BadS K H x ∧ Exc E c.BadSet H) ∨ ∃ (a : Addr) (ws : List Int) (y : V), vs = [.ref a, y] ∧ SqL K H a (ws.map V.int) ∧ Pos ws ∧ ws.length ≤ 8000000 ∧ ((∀ H', Same H H' → Okd K H' y) ∧ isNum y 0 = false) ∧ Exc E c.BadNumber H
theorem c_fewest {a : Addr} {ws : List Int} {m : Int} {H : Hp} {Q : VK} {E : XK} (h : SqL K H a (ws.map V.int)) (hp : Pos ws) (hz : ws.length ≤ 16777215) (h0 : 0 ≤ m) (h1 : m < 2 ^ NN)
    (k : ∀ p dx l k H2, H p = none → H l = none → H k = none → l ≠ k → Same H H2 → H2 p = some (.ins c.Best dx (bestF l k)) → H2 l = some (.lst ((few ws m).map V.int)) → H2 k = some (.lst ((few ws m).map V.int)) → (few ws m).length ≤ NN → Q (.ref p) H2) :
    sp_fewest K c [.ref a, .int m] H Q E := .inl ⟨a, ws, m, rfl, h, hp, hz, h0, h1, k⟩
theorem ok_fewest {f f0 f1 f2 : Addr} {fd fd0 fd1 fd2 : FuncData} (A : At K mg "fewest" sFewest ["weights", "most"] f fd) (T : Tx K mg c) (G_asked_set : FnAt P w K mg base (L2.CX P w) 2 "asked_set" ["weights"] (sp_asked_set K c) f0 fd0) (G_Best_init : InAt P w K mg base CX0 1 c.Best "Best" ["self", "added", "misses"] (sp_Best_init K c) f1 fd1) (G_asked_most : FnAt P w K mg base (L2.CX P w) 2 "asked_most" ["most"] (sp_asked_most K c) f2 fd2) : FnAt P w K mg base (L2.CX P w) 3 "fewest" ["weights", "most"] (sp_fewest K c) f fd := by
  refine ⟨A.g, A.F.kp, A.b, A.F.okX sc_sFewest (fun vs H Q E h => ?_) (fun cdv Ar outer s H vs Q E hr h => ?_)⟩
  · rcases h with ⟨a, ws, m, rfl, _⟩ | ⟨x, y, rfl, _⟩ | ⟨a, ws, y, rfl, _⟩ <;> rfl
  · rcases h with ⟨a, ws, m, rfl, hS, hp, hz, h0, h1, k⟩ | ⟨x, y, rfl, hb, k⟩ | ⟨a, ws, y, rfl, hS, hp, hz, hb, k⟩
    · refine ⟨(tSeq (tDrop (tCall (sp_asked_set K c) [] E (tCons (tVar 0) tNil)))
  (tSeq (tDrop (tCall (sp_asked_most K c) [] E (tCons (tVar 1) tNil)))
  (tSeq (tAsg (tCB (rSortedI K) (tCons (tVar 0) tNil)) (gName 2))
  (tSeq (tAsg (tLst tNil) (gName 3))
  (tSeq (tAsg (tC (.int 0)) (gName 4))
  (tSeq (tAsg (tC (.int 0)) (gName 5))
  (tSeq (tWhile (tTest (tOp (rI0 fun i j => .bl (decide (i < j))) (tVar 4) (tVar 1))) (tIfS (tAnd (tTest (tOp (rI0 fun i j => .bl (decide (i < j))) (tVar 5) (tCB (rLen K) (tCons (tVar 2) tNil)))) (tTest (tOp (rI0 fun i j => .bl (decide (i ≤ j))) (tOp (rIxL K) (tVar 2) (tVar 5)) (tOp (rI0 fun i j => .int (i + j)) (tVar 4) (tC (.int 1)))))) (tSeq (tAsg (tOp (rI0 fun i j => .int (i + j)) (tVar 4) (tOp (rIxL K) (tVar 2) (tVar 5))) (gName 4))
  (tAsg (tOp (rI0 fun i j => .int (i + j)) (tVar 5) (tC (.int 1))) (gName 5))) (tSeq (tDrop (tBM K "list" rAppend (tVar 3) (tCons (tOp (rI0 fun i j => .int (i + j)) (tVar 4) (tC (.int 1))) tNil)))
  (tAsg (tOp (rI0 fun i j => .int (i + j)) (tOp (rI CMulX fun i j => .int (i * j)) (tC (.int 2)) (tVar 4)) (tC (.int 1))) (gName 4)))))
  (tRet (tMake c.Best (sp_Best_init K c) [] E0 (tCons (tVar 3) (tCons (tVar 3) tNil))))))))))), (pss_cons (ps_expr (pe_call G_asked_set.ok (hr.mono (by decide)) (by rfl) G_asked_set.g G_asked_set.kp G_asked_set.b .nil (passes_call (takes_of rfl rfl rfl rfl) fun _ _ _ _ h => h) (pa_cons (pv 0) pa_nil)))
  (pss_cons (ps_expr (pe_call G_asked_most.ok (hr.mono (by decide)) (by rfl) G_asked_most.g G_asked_most.kp G_asked_most.b .nil (passes_call (takes_of rfl rfl rfl rfl) fun _ _ _ _ h => h) (pa_cons (pv 1) pa_nil)))
  (pss_cons (ps_set (i := 2) sc_sFewest.nd rfl (Or.inl rfl) (pe_callB cr_sortedI (by rfl) T.z_sorted bt_sorted (pa_cons (pv 0) pa_nil)))
  (pss_cons (ps_set (i := 3) sc_sFewest.nd rfl (Or.inl rfl) (pe_lst pa_nil))
  (pss_cons (ps_set (i := 4) sc_sFewest.nd rfl (Or.inl rfl) pe_int)
  (pss_cons (ps_set (i := 5) sc_sFewest.nd rfl (Or.inl rfl) pe_int)
  (pss_cons (ps_while (passes_of rfl) (pt_cmpR op_lt (pv 4) (pv 1) (nomark _)) (pss_one (ps_if (PW.pt (pw_and (pt_cmpR op_lt (pv 5) (pe_callB call_lenK (by rfl) T.z_len bt_len (pa_cons (pv 2) pa_nil)) (nomark _)) (pw_and1 (pt_cmpR op_le (pe_ix ix_list (pv 2) (pv 5) (fun _ _ => rfl)) (pe_op op_add (pv 4) pe_int) (nomark _))))) (pss_cons (ps_set (i := 4) sc_sFewest.nd rfl (Or.inl rfl) (pe_op op_add (pv 4) (pe_ix ix_list (pv 2) (pv 5) (fun _ _ => rfl))))
      (pss_one (ps_set (i := 5) sc_sFewest.nd rfl (Or.inl rfl) (pe_op op_add (pv 5) pe_int)))) (pss_cons (ps_expr (pe_bm PySem.F.plainAttrs_list PySem.F.slot_list_append PySem.F.type_list_append mt_append (pv 3) (pa_cons (pe_op op_add (pv 4) pe_int) pa_nil)))
      (pss_one (ps_set (i := 4) sc_sFewest.nd rfl (Or.inl rfl) (pe_op op_add (pe_op op_mulX pe_int (pv 4)) pe_int)))))))
  (pss_one (ps_ret (pe_make G_Best_init.m G_Best_init.ok (hr.mono (by decide)) (by rfl) G_Best_init.g G_Best_init.b .nil pass0 (pa_cons (pv 3) (pa_cons (pv 3) pa_nil)))))))))))), ?_⟩
      refine w_start (σ := [some _, some _, none, none, none, none]) rfl ?_
      wtm_at "w"
      refine c_asked_set hS hp hz fun H2 s2 => ?_
      wtm_at "w"
      refine c_asked_most h0 fun H3 s3 => ?_
      wtm_at "w"
      refine v_sorted ((s2.trans s3).seq hS) fun od H4 n4 s4 d4 => ?_
      wtm_at "w"
      refine v_newL (n := 0) (by decide) fun l H5 n5 s5 d5 => ?_
      wtm_at "w"
      have d45 := s5 _ _ d4
      have hps : Pos (srt ws) := hp.perm (srt_perm ws)
      have sB := ((s2.trans s3).trans s4).trans s5
      have nl : H l = none := ((s2.trans s3).trans s4).free n5
      have nlo : od ≠ l := ne_of_none d4 n5
      refine w_while (fun j σ' H' => ∃ (i : Nat) (R : Int) (acc : List Int), σ' = [some (.ref a), some (.int m), some (.ref od), some (.ref l), some (.int R), some (.int (i : Int))] ∧ i ≤ (srt ws).length ∧ j = (m - R).toNat ∧ 0 ≤ R ∧
        acc ++ fw m (m - R).toNat ((srt ws).drop i) R = few ws m ∧ (2 : Int) ^ acc.length ≤ R + 1 ∧ acc.length ≤ NN ∧ Same H H' ∧ H' od = some (.lst ((srt ws).map V.int)) ∧ H' l = some (.lst (acc.map V.int))) _
        ⟨0, 0, [], rfl, Nat.zero_le _, rfl, Int.le_refl _, by rw [List.drop_zero, Int.sub_zero]; rfl, by decide, Nat.zero_le _, sB, d45, d5⟩ ?_
      rintro j σ' H' ⟨i, R, acc, rfl, hi, rfl, hR, hf, hpw, hacc, s6, d6, e6⟩
      wtm_at "w"
      refine v_if (fun hc => ?_) (fun hc => ?_)
      · have hlt := of_decide_eq_true hc
        obtain ⟨q, hq⟩ : ∃ q, (m - R).toNat = q + 1 := ⟨(m - R).toNat - 1, by omega⟩
        refine v_turn ?_
        wtm_at "w"
        refine v_and (d := decide ((srt ws).getD i 0 ≤ R + 1)) (fun hl R2 hR2 => ?_) (fun H7 s7 => ?_)
        · have hl' := of_decide_eq_true hl
          wtm_at "w"
          refine v_ixL (sq_h d6) (at_get (by omega) (by omega)) ?_
          wtm_at "w"
          rw [Int.toNat_natCast]
          exact hR2 _ (Same.refl _)
        · refine v_if (fun hcc => ?_) (fun hcc => ?_)
          · rw [Bool.and_eq_true] at hcc
            have hil : i < (srt ws).length := by have := of_decide_eq_true hcc.1; omega
            have hle := of_decide_eq_true hcc.2
            have eg : (srt ws).getD i 0 = (srt ws)[i] := by rw [List.getD_eq_getElem?_getD, List.getElem?_eq_getElem hil]; rfl
            have hpos := hps _ (List.getElem_mem hil)
            wtm_at "w"
            refine v_ixL (sq_h (s7 _ _ d6)) (at_get (by omega) (by omega)) ?_
            wtm_at "w"
            rw [Int.toNat_natCast]
            refine ⟨(m - (R + (srt ws).getD i 0)).toNat, by omega, i + 1, R + (srt ws).getD i 0, acc, rfl, by omega, rfl, by omega, ?_, by omega, hacc, s6.trans s7, s7 _ _ d6, s7 _ _ e6⟩
            rw [← hf, hq, List.drop_eq_getElem_cons hil, fw_take hlt (by omega), eg]
            congr 1
            have hp2 : Pos ((srt ws).drop (i + 1)) := hps.sub fun x hx => List.mem_of_mem_drop hx
            exact (fw_more (most := m) (m - (R + (srt ws)[i])).toNat hp2 (by omega) (by omega) (by omega)).symm
          · have hmiss : ∀ o, ((srt ws).drop i).head? = some o → ¬ o ≤ R + 1 := by
              intro o ho hle
              by_cases hil : i < (srt ws).length
              · have eg : (srt ws).getD i 0 = (srt ws)[i] := by rw [List.getD_eq_getElem?_getD, List.getElem?_eq_getElem hil]; rfl
                rw [List.drop_eq_getElem_cons hil] at ho
                have ho' : (srt ws)[i] = o := Option.some.inj ho
                rw [eg, ho', decide_eq_true hle, decide_eq_true (show (i : Int) < ((srt ws).length : Int) by omega)] at hcc
                cases hcc
              · rw [List.drop_of_length_le (by omega)] at ho
                cases ho
            have hlen := len_lt hpw hlt h1
            have hlen2 : acc.length ≤ 16777214 := by
              have : NN = 10000 := rfl
              omega
            wtm_at "w"
            refine v_ty (sq_h (s7 _ _ e6)) ?_
            wtm_at "w"
            refine v_app (s7 _ _ e6) (by rw [List.length_map]; omega) ?_
            wtm_at "w"
            refine v_I (mulx_ok (a := 2) (b := NN) (by decide) ?_ (by decide)) ?_
            · have h2 : ((2 ^ NN : Nat) : Int) = 2 ^ NN := by exact_mod_cast rfl
              have h3 : R < ((2 ^ NN : Nat) : Int) := by rw [h2]; omega
              omega
            wtm_at "w"
            refine ⟨(m - (2 * R + 1)).toNat, by omega, i, 2 * R + 1, acc ++ [R + 1], rfl, hi, rfl, by omega, ?_, ?_, ?_, same_mut (s6.trans s7) nl, ?_, ?_⟩
            · rw [← hf, hq, fw_miss hlt hmiss, List.append_assoc, List.singleton_append]
              congr 2
              have hp2 : Pos ((srt ws).drop i) := hps.sub fun x hx => List.mem_of_mem_drop hx
              exact (fw_more (most := m) (m - (2 * R + 1)).toNat hp2 (by omega) (by omega) (by omega)).symm
            · rw [List.length_append, List.length_singleton, Int.pow_succ]
              omega
            · rw [List.length_append, List.length_singleton]
              omega
            · rw [upd_ne nlo]
              exact s7 _ _ d6
            · rw [upd_same, List.map_append]
              rfl
      · have hge := of_decide_eq_false hc
        rw [fw_stop hge, List.append_nil] at hf
        rw [hf] at e6 hacc
        wtm_at "w"
        refine v_make fun p dx H7 n7 s7 o7 _ => ?_
        have e7 := s7 _ _ e6
        refine c_Best_init o7 (sq_h e7) (sq_h e7) fun H8 l2 k2 s8 o8 dl dk nl2 nk2 ne => ⟨rfl, ?_⟩
        have np : H p = none := s6.free n7
        exact k p dx l2 k2 H8 np (s6.free (s7.free nl2)) (s6.free (s7.free nk2)) ne (fun x o e => s8 x o (ne_of_none e np) (s7 _ _ (s6 _ _ e))) o8 dl dk hacc
    · refine ⟨(tSeq (tDrop (tCall (sp_asked_set K c) [] E (tCons (tVar 0) tNil)))
  (tSeq (tDrop (tCall (sp_asked_most K c) [] E (tCons (tVar 1) tNil)))
  (tSeq (tAsg (tCB (rSortedI K) (tCons (tVar 0) tNil)) (gName 2))
  (tSeq (tAsg (tLst tNil) (gName 3))
  (tSeq (tAsg (tC (.int 0)) (gName 4))
  (tSeq (tAsg (tC (.int 0)) (gName 5))
  (tSeq (tWhile (tTest (tOp (rI0 fun i j => .bl (decide (i < j))) (tVar 4) (tVar 1))) (tIfS (tAnd (tTest (tOp (rI0 fun i j => .bl (decide (i < j))) (tVar 5) (tCB (rLen K) (tCons (tVar 2) tNil)))) (tTest (tOp (rI0 fun i j => .bl (decide (i ≤ j))) (tOp (rIxL K) (tVar 2) (tVar 5)) (tOp (rI0 fun i j => .int (i + j)) (tVar 4) (tC (.int 1)))))) (tSeq (tAsg (tOp (rI0 fun i j => .int (i + j)) (tVar 4) (tOp (rIxL K) (tVar 2) (tVar 5))) (gName 4))
  (tAsg (tOp (rI0 fun i j => .int (i + j)) (tVar 5) (tC (.int 1))) (gName 5))) (tSeq (tDrop (tBM K "list" rAppend (tVar 3) (tCons (tOp (rI0 fun i j => .int (i + j)) (tVar 4) (tC (.int 1))) tNil)))
  (tAsg (tOp (rI0 fun i j => .int (i + j)) (tOp (rI CMulX fun i j => .int (i * j)) (tC (.int 2)) (tVar 4)) (tC (.int 1))) (gName 4)))))
  (tRet (tMake c.Best (sp_Best_init K c) [] E0 (tCons (tVar 3) (tCons (tVar 3) tNil))))))))))), (pss_cons (ps_expr (pe_call G_asked_set.ok (hr.mono (by decide)) (by rfl) G_asked_set.g G_asked_set.kp G_asked_set.b .nil (passes_call (takes_of rfl rfl rfl rfl) fun _ _ _ _ h => h) (pa_cons (pv 0) pa_nil)))
  (pss_cons (ps_expr (pe_call G_asked_most.ok (hr.mono (by decide)) (by rfl) G_asked_most.g G_asked_most.kp G_asked_most.b .nil (passes_call (takes_of rfl rfl rfl rfl) fun _ _ _ _ h => h) (pa_cons (pv 1) pa_nil)))
  (pss_cons (ps_set (i := 2) sc_sFewest.nd rfl (Or.inl rfl) (pe_callB cr_sortedI (by rfl) T.z_sorted bt_sorted (pa_cons (pv 0) pa_nil)))
  (pss_cons (ps_set (i := 3) sc_sFewest.nd rfl (Or.inl rfl) (pe_lst pa_nil))
  (pss_cons (ps_set (i := 4) sc_sFewest.nd rfl (Or.inl rfl) pe_int)
  (pss_cons (ps_set (i := 5) sc_sFewest.nd rfl (Or.inl rfl) pe_int)
  (pss_cons (ps_while (passes_of rfl) (pt_cmpR op_lt (pv 4) (pv 1) (nomark _)) (pss_one (ps_if (PW.pt (pw_and (pt_cmpR op_lt (pv 5) (pe_callB call_lenK (by rfl) T.z_len bt_len (pa_cons (pv 2) pa_nil)) (nomark _)) (pw_and1 (pt_cmpR op_le (pe_ix ix_list (pv 2) (pv 5) (fun _ _ => rfl)) (pe_op op_add (pv 4) pe_int) (nomark _))))) (pss_cons (ps_set (i := 4) sc_sFewest.nd rfl (Or.inl rfl) (pe_op op_add (pv 4) (pe_ix ix_list (pv 2) (pv 5) (fun _ _ => rfl))))
      (pss_one (ps_set (i := 5) sc_sFewest.nd rfl (Or.inl rfl) (pe_op op_add (pv 5) pe_int)))) (pss_cons (ps_expr (pe_bm PySem.F.plainAttrs_list PySem.F.slot_list_append PySem.F.type_list_append mt_append (pv 3) (pa_cons (pe_op op_add (pv 4) pe_int) pa_nil)))
      (pss_one (ps_set (i := 4) sc_sFewest.nd rfl (Or.inl rfl) (pe_op op_add (pe_op op_mulX pe_int (pv 4)) pe_int)))))))
  (pss_one (ps_ret (pe_make G_Best_init.m G_Best_init.ok (hr.mono (by decide)) (by rfl) G_Best_init.g G_Best_init.b .nil pass0 (pa_cons (pv 3) (pa_cons (pv 3) pa_nil)))))))))))), ?_⟩
      refine w_start (σ := [some _, some _, none, none, none, none]) rfl ?_
      wtm_at "w"
      exact b_asked_set hb k
    · refine ⟨(tSeq (tDrop (tCall (sp_asked_set K c) [] E (tCons (tVar 0) tNil)))
  (tSeq (tDrop (tCall (sp_asked_most K c) [] E (tCons (tVar 1) tNil)))
  (tSeq (tAsg (tCB (rSortedI K) (tCons (tVar 0) tNil)) (gName 2))
  (tSeq (tAsg (tLst tNil) (gName 3))
  (tSeq (tAsg (tC (.int 0)) (gName 4))
  (tSeq (tAsg (tC (.int 0)) (gName 5))
  (tSeq (tWhile (tTest (tOp (rI0 fun i j => .bl (decide (i < j))) (tVar 4) (tVar 1))) (tIfS (tAnd (tTest (tOp (rI0 fun i j => .bl (decide (i < j))) (tVar 5) (tCB (rLen K) (tCons (tVar 2) tNil)))) (tTest (tOp (rI0 fun i j => .bl (decide (i ≤ j))) (tOp (rIxL K) (tVar 2) (tVar 5)) (tOp (rI0 fun i j => .int (i + j)) (tVar 4) (tC (.int 1)))))) (tSeq (tAsg (tOp (rI0 fun i j => .int (i + j)) (tVar 4) (tOp (rIxL K) (tVar 2) (tVar 5))) (gName 4))
  (tAsg (tOp (rI0 fun i j => .int (i + j)) (tVar 5) (tC (.int 1))) (gName 5))) (tSeq (tDrop (tBM K "list" rAppend (tVar 3) (tCons (tOp (rI0 fun i j => .int (i + j)) (tVar 4) (tC (.int 1))) tNil)))
  (tAsg (tOp (rI0 fun i j => .int (i + j)) (tOp (rI CMulX fun i j => .int (i * j)) (tC (.int 2)) (tVar 4)) (tC (.int 1))) (gName 4)))))
  (tRet (tMake c.Best (sp_Best_init K c) [] E0 (tCons (tVar 3) (tCons (tVar 3) tNil))))))))))), (pss_cons (ps_expr (pe_call G_asked_set.ok (hr.mono (by decide)) (by rfl) G_asked_set.g G_asked_set.kp G_asked_set.b .nil (passes_call (takes_of rfl rfl rfl rfl) fun _ _ _ _ h => h) (pa_cons (pv 0) pa_nil)))
  (pss_cons (ps_expr (pe_call G_asked_most.ok (hr.mono (by decide)) (by rfl) G_asked_most.g G_asked_most.kp G_asked_most.b .nil (passes_call (takes_of rfl rfl rfl rfl) fun _ _ _ _ h => h) (pa_cons (pv 1) pa_nil)))
  (pss_cons (ps_set (i := 2) sc_sFewest.nd rfl (Or.inl rfl) (pe_callB cr_sortedI (by rfl) T.z_sorted bt_sorted (pa_cons (pv 0) pa_nil)))
  (pss_cons (ps_set (i := 3) sc_sFewest.nd rfl (Or.inl rfl) (pe_lst pa_nil))
  (pss_cons (ps_set (i := 4) sc_sFewest.nd rfl (Or.inl rfl) pe_int)
  (pss_cons (ps_set (i := 5) sc_sFewest.nd rfl (Or.inl rfl) pe_int)
  (pss_cons (ps_while (passes_of rfl) (pt_cmpR op_lt (pv 4) (pv 1) (nomark _)) (pss_one (ps_if (PW.pt (pw_and (pt_cmpR op_lt (pv 5) (pe_callB call_lenK (by rfl) T.z_len bt_len (pa_cons (pv 2) pa_nil)) (nomark _)) (pw_and1 (pt_cmpR op_le (pe_ix ix_list (pv 2) (pv 5) (fun _ _ => rfl)) (pe_op op_add (pv 4) pe_int) (nomark _))))) (pss_cons (ps_set (i := 4) sc_sFewest.nd rfl (Or.inl rfl) (pe_op op_add (pv 4) (pe_ix ix_list (pv 2) (pv 5) (fun _ _ => rfl))))
      (pss_one (ps_set (i := 5) sc_sFewest.nd rfl (Or.inl rfl) (pe_op op_add (pv 5) pe_int)))) (pss_cons (ps_expr (pe_bm PySem.F.plainAttrs_list PySem.F.slot_list_append PySem.F.type_list_append mt_append (pv 3) (pa_cons (pe_op op_add (pv 4) pe_int) pa_nil)))
      (pss_one (ps_set (i := 4) sc_sFewest.nd rfl (Or.inl rfl) (pe_op op_add (pe_op op_mulX pe_int (pv 4)) pe_int)))))))
  (pss_one (ps_ret (pe_make G_Best_init.m G_Best_init.ok (hr.mono (by decide)) (by rfl) G_Best_init.g G_Best_init.b .nil pass0 (pa_cons (pv 3) (pa_cons (pv 3) pa_nil)))))))))))), ?_⟩
      refine w_start (σ := [some _, some _, none, none, none, none]) rfl ?_
      wtm_at "w"
      refine c_asked_set hS hp (by omega) fun H2 s2 => ?_
      wtm_at "w"
      refine b_asked_most (hb.1 _ s2) hb.2 fun H3 s3 => k _ (s2.trans s3)
theorem b_fewest {x y : V} {H : Hp} {Q : VK} {E : XK} (h : BadS K H x) (k : ∀ H2, Same H H2 → E (.ref c.BadSet) none H2) : sp_fewest K c [x, y] H Q E := .inr (.inl ⟨x, y, rfl, h, k⟩)
theorem n_fewest {a : Addr} {ws : List Int} {y : V} {H : Hp} {Q : VK} {E : XK} (h : SqL K H a (ws.map V.int)) (hp : Pos ws) (hz : ws.length ≤ 8000000) (hb : (∀ H', Same H H' → Okd K H' y) ∧ isNum y 0 = false) (k : ∀ H2, Same H H2 → E (.ref c.BadNumber) none H2) : sp_fewest K c [.ref a, y] H Q E := .inr (.inr ⟨a, ws, y, rfl, h, hp, hz, hb, k⟩)
/-! ### told: here only refusing -/
def sp_told (K : PySem.W.Frag) (c : Ca) : Sp := fun vs H Q E => (∃ x y, vs = [x, y] ∧ BadS K H x ∧ Exc E c.BadSet H) ∨ ∃ (a : Addr) (ws : List Int) (y : V), vs = [.ref a, y] ∧ SqL K H a (ws.map V.int) ∧ Pos ws ∧ ws.length ≤ 8000000 ∧ ((∀ H', Same H H' → Okd K H' y) ∧ isNum y 0 = false) ∧ Exc E c.BadNumber H
theorem b_told {x y : V} {H : Hp} {Q : VK} {E : XK} (h : BadS K H x) (k : ∀ H2, Same H H2 → E (.ref c.BadSet) none H2) : sp_told K c [x, y] H Q E := .inl ⟨x, y, rfl, h, k⟩
theorem n_told {a : Addr} {ws : List Int} {y : V} {H : Hp} {Q : VK} {E : XK} (h : SqL K H a (ws.map V.int)) (hp : Pos ws) (hz : ws.length ≤ 8000000) (hb : (∀ H', Same H H' → Okd K H' y) ∧ isNum y 0 = false) (k : ∀ H2, Same H H2 → E (.ref c.BadNumber) none H2) : sp_told K c [.ref a, y] H Q E := .inr ⟨a, ws, y, rfl, h, hp, hz, hb, k⟩
theorem ok_told {f f0 f1 : Addr} {fd fd0 fd1 : FuncData} (A : At K mg "told" sTold ["weights", "most"] f fd) (T : Tx K mg c) (G_asked_set : FnAt P w K mg base (L2.CX P w) 2 "asked_set" ["weights"] (sp_asked_set K c) f0 fd0) (G_asked_most : FnAt P w K mg base (L2.CX P w) 2 "asked_most" ["most"] (sp_asked_most K c) f1 fd1) : FnAt P w K mg base (L2.CX P w) 3 "told" ["weights", "most"] (sp_told K c) f fd := by
  refine ⟨A.g, A.F.kp, A.b, A.F.okX sc_sTold (fun vs H Q E h => ?_) (fun cdv Ar outer s H vs Q E hr h => ?_)⟩
  · rcases h with ⟨x, y, rfl, _⟩ | ⟨a, ws, y, rfl, _⟩ <;> rfl
  · rcases h with ⟨x, y, rfl, hb, k⟩ | ⟨a, ws, y, rfl, hS, hp, hz, hb, k⟩
    · refine ⟨(tSeq (tDrop (tCall (sp_asked_set K c) [] E (tCons (tVar 0) tNil)))
  (tSeq (tDrop (tCall (sp_asked_most K c) [] E (tCons (tVar 1) tNil)))
  (tSeq tNever
  tNever))), (pss_cons (ps_expr (pe_call G_asked_set.ok (hr.mono (by decide)) (by rfl) G_asked_set.g G_asked_set.kp G_asked_set.b .nil (passes_call (takes_of rfl rfl rfl rfl) fun _ _ _ _ h => h) (pa_cons (pv 0) pa_nil)))
  (pss_cons (ps_expr (pe_call G_asked_most.ok (hr.mono (by decide)) (by rfl) G_asked_most.g G_asked_most.kp G_asked_most.b .nil (passes_call (takes_of rfl rfl rfl rfl) fun _ _ _ _ h => h) (pa_cons (pv 1) pa_nil)))
  (pss_cons ps_never
  (pss_one ps_never)))), ?_⟩
      refine w_start (σ := [some _, some _, none]) rfl ?_
      wtm_at "w"
      exact b_asked_set hb k
    · refine ⟨(tSeq (tDrop (tCall (sp_asked_set K c) [] E (tCons (tVar 0) tNil)))
  (tSeq (tDrop (tCall (sp_asked_most K c) [] E (tCons (tVar 1) tNil)))
  (tSeq tNever
  tNever))), (pss_cons (ps_expr (pe_call G_asked_set.ok (hr.mono (by decide)) (by rfl) G_asked_set.g G_asked_set.kp G_asked_set.b .nil (passes_call (takes_of rfl rfl rfl rfl) fun _ _ _ _ h => h) (pa_cons (pv 0) pa_nil)))
  (pss_cons (ps_expr (pe_call G_asked_most.ok (hr.mono (by decide)) (by rfl) G_asked_most.g G_asked_most.kp G_asked_most.b .nil (passes_call (takes_of rfl rfl rfl rfl) fun _ _ _ _ h => h) (pa_cons (pv 1) pa_nil)))
  (pss_cons ps_never
  (pss_one ps_never)))), ?_⟩
      refine w_start (σ := [some _, some _, none]) rfl ?_
      wtm_at "w"
      refine c_asked_set hS hp (by omega) fun H2 s2 => ?_
      wtm_at "w"
      refine b_asked_most (hb.1 _ s2) hb.2 fun H3 s3 => k _ (s2.trans s3)
/-! ### asking at a door -/
def sp_law_ask (K : PySem.W.Frag) (c : Ca) : Sp := fun vs H Q E => (∃ (d : Int) (x y : V), vs = [.int d, x, y] ∧ BadS K H x ∧ Exc E c.BadSet H) ∨ ∃ (d : Int) (a : Addr) (ws : List Int) (y : V), vs = [.int d, .ref a, y] ∧ (d = 0 ∨ d = 2 ∨ d = 3) ∧ SqL K H a (ws.map V.int) ∧ Pos ws ∧ ws.length ≤ 1000 ∧ ((∀ H', Same H H' → Okd K H' y) ∧ isNum y 0 = false) ∧ Exc E c.BadNumber H
theorem b_law_ask {d : Int} {x y : V} {H : Hp} {Q : VK} {E : XK} (h : BadS K H x) (k : ∀ H2, Same H H2 → E (.ref c.BadSet) none H2) : sp_law_ask K c [.int d, x, y] H Q E := .inl ⟨d, x, y, rfl, h, k⟩
theorem n_law_ask {d : Int} {a : Addr} {ws : List Int} {y : V} {H : Hp} {Q : VK} {E : XK} (hd : d = 0 ∨ d = 2 ∨ d = 3) (h : SqL K H a (ws.map V.int)) (hp : Pos ws) (hz : ws.length ≤ 1000) (hb : (∀ H', Same H H' → Okd K H' y) ∧ isNum y 0 = false) (k : ∀ H2, Same H H2 → E (.ref c.BadNumber) none H2) :
    sp_law_ask K c [.int d, .ref a, y] H Q E := .inr ⟨d, a, ws, y, rfl, hd, h, hp, hz, hb, k⟩
theorem ok_law_ask {f f0 f1 f2 f3 f4 : Addr} {fd fd0 fd1 fd2 fd3 fd4 : FuncData} (A : At K mg "_law_ask" sLawAsk ["_law_door", "_law_weights", "_law_other"] f fd) (T : Tx K mg c) (G_first_gap : FnAt P w K mg base (L2.CX P w) 3 "first_gap" ["weights"] (sp_first_gap K c) f0 fd0) (G_weighing : FnAt P w K mg base (L2.CX P w) 3 "weighing" ["weights", "number"] (sp_weighing K c) f1 fd1) (G_without : FnAt P w K mg base (L2.CX P w) 3 "without" ["weights", "place"] (sp_without K c) f2 fd2) (G_told : FnAt P w K mg base (L2.CX P w) 3 "told" ["weights", "most"] (sp_told K c) f3 fd3) (G_fewest : FnAt P w K mg base (L2.CX P w) 3 "fewest" ["weights", "most"] (sp_fewest K c) f4 fd4) : FnAt P w K mg base (L2.CX P w) 4 "_law_ask" ["_law_door", "_law_weights", "_law_other"] (sp_law_ask K c) f fd := by
  refine ⟨A.g, A.F.kp, A.b, A.F.okX sc_sLawAsk (fun vs H Q E h => ?_) (fun cdv Ar outer s H vs Q E hr h => ?_)⟩
  · rcases h with ⟨d, x, y, rfl, _⟩ | ⟨d, a, ws, y, rfl, _⟩ <;> rfl
  · rcases h with ⟨d, x, y, rfl, hb, k⟩ | ⟨d, a, ws, y, rfl, hd, hS, hp, hz, hb, k⟩
    · refine ⟨(tSeq (tIfS (tTest (tOp (rI0 fun i j => .bl (decide (i < j))) (tVar 0) (tC (.int 2)))) (tRet (tIf (tTest (tOp rEq (tVar 0) (tC (.int 0)))) (tCall (sp_weighing K c) [] E (tCons (tVar 1) (tCons (tVar 2) tNil))) (tCall (sp_without K c) [] E (tCons (tVar 1) (tCons (tVar 2) tNil))))) tNext)
  (tSeq (tIfS (tTest (tOp (rI0 fun i j => .bl (decide (i < j))) (tVar 0) (tC (.int 4)))) (tRet (tIf (tTest (tOp rEq (tVar 0) (tC (.int 2)))) (tCall (sp_told K c) [] E (tCons (tVar 1) (tCons (tVar 2) tNil))) (tCall (sp_fewest K c) [] E (tCons (tVar 1) (tCons (tVar 2) tNil))))) tNext)
  (tRet (tCall (sp_first_gap K c) [] E (tCons (tVar 1) tNil))))), (pss_cons (ps_if (pt_cmpR op_lt (pv 0) pe_int (nomark _)) (pss_one (ps_ret (pe_ifExp (pt_cmpR op_eq (pv 0) pe_int (nomark _)) (pe_call G_weighing.ok (hr.mono (by decide)) (by rfl) G_weighing.g G_weighing.kp G_weighing.b .nil (passes_call (takes_of rfl rfl rfl rfl) fun _ _ _ _ h => h) (pa_cons (pv 1) (pa_cons (pv 2) pa_nil))) (pe_call G_without.ok (hr.mono (by decide)) (by rfl) G_without.g G_without.kp G_without.b .nil (passes_call (takes_of rfl rfl rfl rfl) fun _ _ _ _ h => h) (pa_cons (pv 1) (pa_cons (pv 2) pa_nil)))))) pss_nil)
  (pss_cons (ps_if (pt_cmpR op_lt (pv 0) pe_int (nomark _)) (pss_one (ps_ret (pe_ifExp (pt_cmpR op_eq (pv 0) pe_int (nomark _)) (pe_call G_told.ok (hr.mono (by decide)) (by rfl) G_told.g G_told.kp G_told.b .nil (passes_call (takes_of rfl rfl rfl rfl) fun _ _ _ _ h => h) (pa_cons (pv 1) (pa_cons (pv 2) pa_nil))) (pe_call G_fewest.ok (hr.mono (by decide)) (by rfl) G_fewest.g G_fewest.kp G_fewest.b .nil (passes_call (takes_of rfl rfl rfl rfl) fun _ _ _ _ h => h) (pa_cons (pv 1) (pa_cons (pv 2) pa_nil)))))) pss_nil)
  (pss_one (ps_ret (pe_call G_first_gap.ok (hr.mono (by decide)) (by rfl) G_first_gap.g G_first_gap.kp G_first_gap.b .nil (passes_call (takes_of rfl rfl rfl rfl) fun _ _ _ _ h => h) (pa_cons (pv 1) pa_nil)))))), ?_⟩
      refine w_start (σ := [some _, some _, some _]) rfl ?_
      wtm_at "w"
      refine v_if (fun hc => ?_) (fun hc => ?_)
      · wtm_at "w"
        refine v_if (fun hc => ?_) (fun hc => ?_)
        · wtm_at "w"
          exact b_weighing hb k
        · wtm_at "w"
          exact b_without hb k
      wtm_at "w"
      refine v_if (fun hc => ?_) (fun hc => ?_)
      · wtm_at "w"
        refine v_if (fun hc => ?_) (fun hc => ?_)
        · wtm_at "w"
          exact b_told hb k
        · wtm_at "w"
          exact b_fewest hb k
      · wtm_at "w"
        exact b_first_gap hb k
    · refine ⟨(tSeq (tIfS (tTest (tOp (rI0 fun i j => .bl (decide (i < j))) (tVar 0) (tC (.int 2)))) (tRet (tIf (tTest (tOp rEq (tVar 0) (tC (.int 0)))) (tCall (sp_weighing K c) [] E (tCons (tVar 1) (tCons (tVar 2) tNil))) (tCall (sp_without K c) [] E (tCons (tVar 1) (tCons (tVar 2) tNil))))) tNext)
  (tSeq (tIfS (tTest (tOp (rI0 fun i j => .bl (decide (i < j))) (tVar 0) (tC (.int 4)))) (tRet (tIf (tTest (tOp rEq (tVar 0) (tC (.int 2)))) (tCall (sp_told K c) [] E (tCons (tVar 1) (tCons (tVar 2) tNil))) (tCall (sp_fewest K c) [] E (tCons (tVar 1) (tCons (tVar 2) tNil))))) tNext)
  (tRet (tCall (sp_first_gap K c) [] E (tCons (tVar 1) tNil))))), (pss_cons (ps_if (pt_cmpR op_lt (pv 0) pe_int (nomark _)) (pss_one (ps_ret (pe_ifExp (pt_cmpR op_eq (pv 0) pe_int (nomark _)) (pe_call G_weighing.ok (hr.mono (by decide)) (by rfl) G_weighing.g G_weighing.kp G_weighing.b .nil (passes_call (takes_of rfl rfl rfl rfl) fun _ _ _ _ h => h) (pa_cons (pv 1) (pa_cons (pv 2) pa_nil))) (pe_call G_without.ok (hr.mono (by decide)) (by rfl) G_without.g G_without.kp G_without.b .nil (passes_call (takes_of rfl rfl rfl rfl) fun _ _ _ _ h => h) (pa_cons (pv 1) (pa_cons (pv 2) pa_nil)))))) pss_nil)
  (pss_cons (ps_if (pt_cmpR op_lt (pv 0) pe_int (nomark _)) (pss_one (ps_ret (pe_ifExp (pt_cmpR op_eq (pv 0) pe_int (nomark _)) (pe_call G_told.ok (hr.mono (by decide)) (by rfl) G_told.g G_told.kp G_told.b .nil (passes_call (takes_of rfl rfl rfl rfl) fun _ _ _ _ h => h) (pa_cons (pv 1) (pa_cons (pv 2) pa_nil))) (pe_call G_fewest.ok (hr.mono (by decide)) (by rfl) G_fewest.g G_fewest.kp G_fewest.b .nil (passes_call (takes_of rfl rfl rfl rfl) fun _ _ _ _ h => h) (pa_cons (pv 1) (pa_cons (pv 2) pa_nil)))))) pss_nil)
  (pss_one (ps_ret (pe_call G_first_gap.ok (hr.mono (by decide)) (by rfl) G_first_gap.g G_first_gap.kp G_first_gap.b .nil (passes_call (takes_of rfl rfl rfl rfl) fun _ _ _ _ h => h) (pa_cons (pv 1) pa_nil)))))), ?_⟩
      refine w_start (σ := [some _, some _, some _]) rfl ?_
      wtm_at "w"
      rcases hd with rfl | rfl | rfl
      · refine v_ift (by decide) ?_
        wtm_at "w"
        refine v_ift (by decide) ?_
        wtm_at "w"
        exact n_weighing hS hp (by omega) ⟨hb.1, .inl hb.2⟩ k
      · refine v_iff (by decide) ?_
        wtm_at "w"
        refine v_ift (by decide) ?_
        wtm_at "w"
        refine v_ift (by decide) ?_
        wtm_at "w"
        exact n_told hS hp (by omega) hb k
      · refine v_iff (by decide) ?_
        wtm_at "w"
        refine v_ift (by decide) ?_
        wtm_at "w"
        refine v_iff (by decide) ?_
        wtm_at "w"
        exact n_fewest hS hp (by omega) hb k
/-! ### of which classes a refusal is -/
def suiteT (K : PySem.W.Frag) (c : Ca) : Addr → Value → Option Addr → TS := fun a cls d => (tSeq (tAsg (tLst (tCons (tCB (rIsX K a cls d) (tCons (tVar 4) (tCons (tC (.ref c.BadSet)) tNil))) (tCons (tCB (rIsX K a cls d) (tCons (tVar 4) (tCons (tC (.ref c.BadNumber)) tNil))) (tCons (tCB (rIsX K a cls d) (tCons (tVar 4) (tCons (tC (.ref c.BadPlace)) tNil))) tNil)))) (gName 5))
  (tRet (tOp rCat (tVar 5) (tLst (tCons (tCB (rIsX K a cls d) (tCons (tVar 4) (tCons (tC (.ty "ValueError")) tNil))) tNil)))))
theorem suite_ok {D : Ends} {a C : Addr} {y0 y1 y2 y3 y5 y6 : Option V} {H : Hp} {b1 b2 b3 : Bool} (x : ExcC K C) (k1 : PySem.W.kitOne K (.ref C) (.ref c.BadSet) = some b1) (k2 : PySem.W.kitOne K (.ref C) (.ref c.BadNumber) = some b2) (k3 : PySem.W.kitOne K (.ref C) (.ref c.BadPlace) = some b3) (k4 : PySem.W.kitOne K (.ref C) (.type "ValueError") = some true)
    (k : ∀ p H2, H p = none → Same H H2 → H2 p = some (.lst ([b1, b2, b3, true].map V.bl)) → D.rt (.ref p) H2) : suiteT K c a (.ref C) none D [y0, y1, y2, y3, some (.ref a), y5, y6] H := by
  unfold suiteT
  wtm_at "w"
  refine v_isX x (.own _) k1 ?_
  wtm_at "w"
  refine v_isX x (.own _) k2 ?_
  wtm_at "w"
  refine v_isX x (.own _) k3 ?_
  wtm_at "w"
  refine v_newL (n := 3) (by decide) fun p1 H1 n1 s1 d1 => ?_
  wtm_at "w"
  refine v_isX x (.ty _) k4 ?_
  wtm_at "w"
  refine v_newL (n := 1) (by decide) fun p2 H2 n2 s2 d2 => ?_
  wtm_at "w"
  refine v_catV (s2 _ _ d1) d2 (by simp) fun p3 H3 n3 s3 d3 => ?_
  wtm_at "w"
  have sA := s1.trans s2
  exact k p3 H3 (sA.free n3) (sA.trans s3) d3
theorem caught_ok {D : Ends} {C : Addr} {y0 y1 y2 y3 y4 y5 y6 : Option V} {H : Hp} {b1 b2 b3 : Bool} (x : ExcC K C) (em : PySem.W.exmOne K (.ref C) (.ref c.WeightError) = some true) (k1 : PySem.W.kitOne K (.ref C) (.ref c.BadSet) = some b1) (k2 : PySem.W.kitOne K (.ref C) (.ref c.BadNumber) = some b2) (k3 : PySem.W.kitOne K (.ref C) (.ref c.BadPlace) = some b3) (k4 : PySem.W.kitOne K (.ref C) (.type "ValueError") = some true)
    (k : ∀ p H2, H p = none → Same H H2 → H2 p = some (.lst ([b1, b2, b3, true].map V.bl)) → D.rt (.ref p) H2) : WE (wAs K (.ref c.WeightError) 4 (suiteT K c) (fun _ _ _ _ => False) D) [y0, y1, y2, y3, y4, y5, y6] (.ref C) none H :=
  v_caught em fun a _ => suite_ok x k1 k2 k3 k4 k
def BadK (K : PySem.W.Frag) (H : Hp) (x : V) : Prop := (∃ t, TyX K H x t ∧ PySem.W.kitOne K t (.type "list") = some false) ∨ ∃ (a : Addr) (y : V), x = .ref a ∧ H a = some (.lst [y]) ∧ (∀ H', Same H H' → Okd K H' y) ∧ isNum y 1 = false
theorem okd_l {H : Hp} {a : Addr} {xs : List V} (h : H a = some (.lst xs)) : ∀ H', Same H H' → Okd K H' (.ref a) := fun H' s => ⟨"list", .base (.lst (s _ _ h)), .inl rfl⟩
theorem okd_t {H : Hp} {a : Addr} {xs : List V} (h : H a = some (.tup xs)) : ∀ H', Same H H' → Okd K H' (.ref a) := fun H' s => ⟨"tuple", .base (.tup (s _ _ h)), .inr (.inl rfl)⟩
theorem okd_d {H : Hp} {a : Addr} {kvs : List (Key × V)} (h : H a = some (.dK kvs)) : ∀ H', Same H H' → Okd K H' (.ref a) := fun H' s => ⟨"dict", .base (.dK (s _ _ h)), .inr (.inr rfl)⟩
def told4 (kind : Int) : List Bool := [decide (kind = 0), decide (kind ∈ ([1, 2] : List Int)), decide (kind = 3), true]
def sp_law_told (K : PySem.W.Frag) (_ : Ca) : Sp := fun vs H Q _ => ∃ kind which more : Int, vs = [.int kind, .int which, .int more] ∧ 0 ≤ kind ∧ kind < 4 ∧ 0 ≤ more ∧ more < 1000 ∧ ∀ p H2, H p = none → Same H H2 → H2 p = some (.lst ((told4 kind).map V.bl)) → Q (.ref p) H2
theorem c_law_told {kind which more : Int} {H : Hp} {Q : VK} {E : XK} (h0 : 0 ≤ kind) (h1 : kind < 4) (h2 : 0 ≤ more) (h3 : more < 1000) (k : ∀ p H2, H p = none → Same H H2 → H2 p = some (.lst ((told4 kind).map V.bl)) → Q (.ref p) H2) : sp_law_told K c [.int kind, .int which, .int more] H Q E := ⟨kind, which, more, rfl, h0, h1, h2, h3, k⟩
theorem ok_law_told {f f0 f1 f2 : Addr} {fd fd0 fd1 fd2 : FuncData} (A : At K mg "_law_told" sLawTold ["_law_kind", "_law_which", "_law_more"] f fd) (T : Tx K mg c) (G_weighing : FnAt P w K mg base (L2.CX P w) 3 "weighing" ["weights", "number"] (sp_weighing K c) f0 fd0) (G_without : FnAt P w K mg base (L2.CX P w) 3 "without" ["weights", "place"] (sp_without K c) f1 fd1) (G_law_ask : FnAt P w K mg base (L2.CX P w) 4 "_law_ask" ["_law_door", "_law_weights", "_law_other"] (sp_law_ask K c) f2 fd2) : FnAt P w K mg base CX0 5 "_law_told" ["_law_kind", "_law_which", "_law_more"] (sp_law_told K c) f fd := by
  refine ⟨A.g, A.F.kp, A.b, A.F.ok sc_sLawTold (fun vs H Q E h => ?_) (fun cdv Ar outer s H vs Q E hr h => ?_)⟩
  · obtain ⟨kind, which, more, rfl, _⟩ := h
    rfl
  · obtain ⟨kind, which, more, rfl, hk0, hk1, hm0, hm1, k⟩ := h
    refine ⟨(tSeq (tTryAs K c.WeightError 4 (fun W => (tIfS (tTest (tOp rEq (tVar 0) (tC (.int 0)))) (Evl.tCut (tAsg (tOp (rIxL K) (tLst (tCons (tC .non) (tCons (tC (.int 5)) (tCons (tC (.str "12")) (tCons (tTup (tCons (tC (.int 1)) (tCons (tC (.int 2)) tNil))) (tCons tDNewK (tCons (tLst (tCons (tC (.int 0)) tNil)) (tCons (tLst (tCons (tOp (rI0 fun i j => .int (i - j)) (tUn (rU fun i => .int (-i)) (tC (.int 1))) (tVar 2)) tNil)) (tCons (tLst (tCons (tC (.bl true)) tNil)) (tCons (tLst (tCons (tC (.str "1")) tNil)) (tCons (tLst (tCons (tC .non) tNil)) (tCons (tLst (tCons (tLst (tCons (tC (.int 1)) tNil)) tNil)) (tCons (tLst (tCons (tTup (tCons (tC (.int 1)) tNil)) tNil)) tNil))))))))))))) (tOp (rI (fun _ j => 0 < j) fun i j => .int (i % j)) (tVar 1) (tC (.int 12)))) (gName 3))
  (Evl.tCut (tIfS (tB (tCB (rIsi K) (tCons (tVar 3) (tCons (tC (.ty "list")) tNil)))) (tAsg (tOp rCat (tOp rCat (tLc (iRng1 (tCons (tOp (rI (fun _ j => 0 < j) fun i j => .int (i % j)) (tVar 2) (tC (.int 6))) tNil)) (gName 6) tYes (tOp (rI0 fun i j => .int (i + j)) (tC (.int 1)) (tVar 2)) [6]) (tVar 3)) (tOp rRep (tLst (tCons (tC (.int 3)) tNil)) (tOp (rI (fun _ j => 0 < j) fun i j => .int (i % j)) (tVar 2) (tC (.int 3))))) (gName 3)) tNext)
  (tDrop (tCallS (sp_law_ask K c) (WE W) (tCons (tOp (rI (fun _ j => 0 < j) fun i j => .int (i % j)) (tOp (rI CDiv fun i j => .int (i / j)) (tVar 1) (tC (.int 12))) (tC (.int 5))) (tCons (tVar 3) (tCons (tC .non) tNil))))))) (tIfS (tTest (tOp rEq (tVar 0) (tC (.int 1)))) (Evl.tCut (tAsg (tOp (rIxL K) (tLst (tCons (tC .non) (tCons (tC (.str "1")) (tCons (tC (.bl true)) (tCons (tLst (tCons (tC (.int 1)) tNil)) (tCons (tTup (tCons (tC (.int 1)) tNil)) (tCons (tOp (rI0 fun i j => .int (i - j)) (tUn (rU fun i => .int (-i)) (tC (.int 1))) (tVar 2)) (tCons tDNewK (tCons (tC (.str "x")) tNil))))))))) (tOp (rI (fun _ j => 0 < j) fun i j => .int (i % j)) (tVar 1) (tC (.int 8)))) (gName 3))
  (tDrop (tCallS (sp_law_ask K c) (WE W) (tCons (tOp (rIxT K) (tTup (tCons (tC (.int 0)) (tCons (tC (.int 2)) (tCons (tC (.int 3)) tNil)))) (tOp (rI (fun _ j => 0 < j) fun i j => .int (i % j)) (tOp (rI CDiv fun i j => .int (i / j)) (tVar 1) (tC (.int 8))) (tC (.int 3)))) (tCons (tLst (tCons (tC (.int 1)) (tCons (tC (.int 2)) (tCons (tC (.int 4)) tNil)))) (tCons (tVar 3) tNil)))))) (tIfS (tTest (tOp rEq (tVar 0) (tC (.int 2)))) (tDrop (tCallS (sp_weighing K c) (WE W) (tCons (tLst (tCons (tC (.int 1)) (tCons (tC (.int 2)) (tCons (tC (.int 9)) tNil)))) (tCons (tOp (rIxL K) (tLst (tCons (tC (.int 4)) (tCons (tOp (rI0 fun i j => .int (i + j)) (tC (.int 4)) (tVar 2)) (tCons (tC (.int 9)) (tCons (tC (.int 12)) tNil))))) (tOp (rI (fun _ j => 0 < j) fun i j => .int (i % j)) (tVar 1) (tC (.int 4)))) tNil)))) (tDrop (tCallS (sp_without K c) (WE W) (tCons (tLst (tCons (tC (.int 1)) (tCons (tC (.int 2)) (tCons (tC (.int 4)) tNil)))) (tCons (tOp (rIxL K) (tLst (tCons (tC .non) (tCons (tC (.str "1")) (tCons (tC (.bl true)) (tCons (tLst (tCons (tC (.int 1)) tNil)) (tCons (tOp (rI0 fun i j => .int (i - j)) (tUn (rU fun i => .int (-i)) (tC (.int 1))) (tVar 2)) (tCons (tOp (rI0 fun i j => .int (i + j)) (tC (.int 3)) (tVar 2)) (tCons (tTup (tCons (tC (.int 0)) tNil)) tNil)))))))) (tOp (rI (fun _ j => 0 < j) fun i j => .int (i % j)) (tVar 1) (tC (.int 7)))) tNil)))))))) (fun a cls d => (tSeq (tAsg (tLst (tCons (tCB (rIsX K a cls d) (tCons (tVar 4) (tCons (tC (.ref c.BadSet)) tNil))) (tCons (tCB (rIsX K a cls d) (tCons (tVar 4) (tCons (tC (.ref c.BadNumber)) tNil))) (tCons (tCB (rIsX K a cls d) (tCons (tVar 4) (tCons (tC (.ref c.BadPlace)) tNil))) tNil)))) (gName 5))
  (tRet (tOp rCat (tVar 5) (tLst (tCons (tCB (rIsX K a cls d) (tCons (tVar 4) (tCons (tC (.ty "ValueError")) tNil))) tNil)))))))
  (tRet (tLst tNil))), (pss_cons (ps_try_as (i := 4) (tb := fun W => (tIfS (tTest (tOp rEq (tVar 0) (tC (.int 0)))) (Evl.tCut (tAsg (tOp (rIxL K) (tLst (tCons (tC .non) (tCons (tC (.int 5)) (tCons (tC (.str "12")) (tCons (tTup (tCons (tC (.int 1)) (tCons (tC (.int 2)) tNil))) (tCons tDNewK (tCons (tLst (tCons (tC (.int 0)) tNil)) (tCons (tLst (tCons (tOp (rI0 fun i j => .int (i - j)) (tUn (rU fun i => .int (-i)) (tC (.int 1))) (tVar 2)) tNil)) (tCons (tLst (tCons (tC (.bl true)) tNil)) (tCons (tLst (tCons (tC (.str "1")) tNil)) (tCons (tLst (tCons (tC .non) tNil)) (tCons (tLst (tCons (tLst (tCons (tC (.int 1)) tNil)) tNil)) (tCons (tLst (tCons (tTup (tCons (tC (.int 1)) tNil)) tNil)) tNil))))))))))))) (tOp (rI (fun _ j => 0 < j) fun i j => .int (i % j)) (tVar 1) (tC (.int 12)))) (gName 3))
  (Evl.tCut (tIfS (tB (tCB (rIsi K) (tCons (tVar 3) (tCons (tC (.ty "list")) tNil)))) (tAsg (tOp rCat (tOp rCat (tLc (iRng1 (tCons (tOp (rI (fun _ j => 0 < j) fun i j => .int (i % j)) (tVar 2) (tC (.int 6))) tNil)) (gName 6) tYes (tOp (rI0 fun i j => .int (i + j)) (tC (.int 1)) (tVar 2)) [6]) (tVar 3)) (tOp rRep (tLst (tCons (tC (.int 3)) tNil)) (tOp (rI (fun _ j => 0 < j) fun i j => .int (i % j)) (tVar 2) (tC (.int 3))))) (gName 3)) tNext)
  (tDrop (tCallS (sp_law_ask K c) (WE W) (tCons (tOp (rI (fun _ j => 0 < j) fun i j => .int (i % j)) (tOp (rI CDiv fun i j => .int (i / j)) (tVar 1) (tC (.int 12))) (tC (.int 5))) (tCons (tVar 3) (tCons (tC .non) tNil))))))) (tIfS (tTest (tOp rEq (tVar 0) (tC (.int 1)))) (Evl.tCut (tAsg (tOp (rIxL K) (tLst (tCons (tC .non) (tCons (tC (.str "1")) (tCons (tC (.bl true)) (tCons (tLst (tCons (tC (.int 1)) tNil)) (tCons (tTup (tCons (tC (.int 1)) tNil)) (tCons (tOp (rI0 fun i j => .int (i - j)) (tUn (rU fun i => .int (-i)) (tC (.int 1))) (tVar 2)) (tCons tDNewK (tCons (tC (.str "x")) tNil))))))))) (tOp (rI (fun _ j => 0 < j) fun i j => .int (i % j)) (tVar 1) (tC (.int 8)))) (gName 3))
  (tDrop (tCallS (sp_law_ask K c) (WE W) (tCons (tOp (rIxT K) (tTup (tCons (tC (.int 0)) (tCons (tC (.int 2)) (tCons (tC (.int 3)) tNil)))) (tOp (rI (fun _ j => 0 < j) fun i j => .int (i % j)) (tOp (rI CDiv fun i j => .int (i / j)) (tVar 1) (tC (.int 8))) (tC (.int 3)))) (tCons (tLst (tCons (tC (.int 1)) (tCons (tC (.int 2)) (tCons (tC (.int 4)) tNil)))) (tCons (tVar 3) tNil)))))) (tIfS (tTest (tOp rEq (tVar 0) (tC (.int 2)))) (tDrop (tCallS (sp_weighing K c) (WE W) (tCons (tLst (tCons (tC (.int 1)) (tCons (tC (.int 2)) (tCons (tC (.int 9)) tNil)))) (tCons (tOp (rIxL K) (tLst (tCons (tC (.int 4)) (tCons (tOp (rI0 fun i j => .int (i + j)) (tC (.int 4)) (tVar 2)) (tCons (tC (.int 9)) (tCons (tC (.int 12)) tNil))))) (tOp (rI (fun _ j => 0 < j) fun i j => .int (i % j)) (tVar 1) (tC (.int 4)))) tNil)))) (tDrop (tCallS (sp_without K c) (WE W) (tCons (tLst (tCons (tC (.int 1)) (tCons (tC (.int 2)) (tCons (tC (.int 4)) tNil)))) (tCons (tOp (rIxL K) (tLst (tCons (tC .non) (tCons (tC (.str "1")) (tCons (tC (.bl true)) (tCons (tLst (tCons (tC (.int 1)) tNil)) (tCons (tOp (rI0 fun i j => .int (i - j)) (tUn (rU fun i => .int (-i)) (tC (.int 1))) (tVar 2)) (tCons (tOp (rI0 fun i j => .int (i + j)) (tC (.int 3)) (tVar 2)) (tCons (tTup (tCons (tC (.int 0)) tNil)) tNil)))))))) (tOp (rI (fun _ j => 0 < j) fun i j => .int (i % j)) (tVar 1) (tC (.int 7)))) tNil)))))))) (ts := fun a cls d => (tSeq (tAsg (tLst (tCons (tCB (rIsX K a cls d) (tCons (tVar 4) (tCons (tC (.ref c.BadSet)) tNil))) (tCons (tCB (rIsX K a cls d) (tCons (tVar 4) (tCons (tC (.ref c.BadNumber)) tNil))) (tCons (tCB (rIsX K a cls d) (tCons (tVar 4) (tCons (tC (.ref c.BadPlace)) tNil))) tNil)))) (gName 5))
  (tRet (tOp rCat (tVar 5) (tLst (tCons (tCB (rIsX K a cls d) (tCons (tVar 4) (tCons (tC (.ty "ValueError")) tNil))) tNil)))))) (Wout := fun _ _ _ _ => False) rfl rfl sc_sLawTold.nd rfl rfl ⟨rfl, by decide, Or.inl T.g_WeightError⟩ takes0 (fun W pn xe tk _ => (pss_one (ps_if (pt_cmpR op_eq (pv 0) pe_int (nomark _)) (Evl.pss_cut (ps_set (i := 3) sc_sLawTold.nd rfl (Or.inl rfl) (pe_ix ix_list (pe_lst (pa_cons pe_non (pa_cons pe_int (pa_cons pe_str (pa_cons (pe_tup (pa_cons pe_int (pa_cons pe_int pa_nil))) (pa_cons pe_dnewK (pa_cons (pe_lst (pa_cons pe_int pa_nil)) (pa_cons (pe_lst (pa_cons (pe_op op_sub (pe_un un_neg pe_int) (pv 2)) pa_nil)) (pa_cons (pe_lst (pa_cons pe_bl pa_nil)) (pa_cons (pe_lst (pa_cons pe_str pa_nil)) (pa_cons (pe_lst (pa_cons pe_non pa_nil)) (pa_cons (pe_lst (pa_cons (pe_lst (pa_cons pe_int pa_nil)) pa_nil)) (pa_cons (pe_lst (pa_cons (pe_tup (pa_cons pe_int pa_nil)) pa_nil)) pa_nil))))))))))))) (pe_op op_mod (pv 1) pe_int) (fun _ _ => rfl)))
      (Evl.pss_cut (ps_if (pt_val (pe_callB call_isi (by rfl) T.z_isinstance bt_isinstance (pa_cons (pv 3) (pa_cons (pe_bltn (v := .ty "list") (by rfl) T.z_list bt_list rfl) pa_nil)))) (pss_one (ps_set (i := 3) sc_sLawTold.nd rfl (Or.inl rfl) (pe_op op_cat (pe_op op_cat (pe_lc (own := [("_law_weight", 6)]) (g := gName 6) (tt := tYes) (te := (tOp (rI0 fun i j => .int (i + j)) (tC (.int 1)) (tVar 2))) rfl sc_sLawTold.nd (pi_range1 (by rfl) T.z_range (pa_cons (pe_op op_mod (pv 2) pe_int) pa_nil)) (blkOk_by (N := ["_law_kind", "_law_which", "_law_more", "_law_bad", "error", "_law_found", "_law_weight"]) (sc := defScope sLawTold) (by decide +kernel)) (fun _ _ _ _ _ => (pg_name (i := 6) sc_sLawTold.nd rfl (Or.inl rfl))) (fun _ _ _ _ _ => pts_nil) (fun _ _ _ _ _ => (pe_op op_add pe_int (pv 2)))) (pv 3)) (pe_op op_rep (pe_lst (pa_cons pe_int pa_nil)) (pe_op op_mod (pv 2) pe_int))))) pss_nil)
      (pss_one (ps_expr (pe_callS G_law_ask.ok (hr.mono (by decide)) (by rfl) G_law_ask.g G_law_ask.kp G_law_ask.b (fun σ => passAt tk σ) (pa_cons (pe_op op_mod (pe_op op_fdiv (pv 1) pe_int) pe_int) (pa_cons (pv 3) (pa_cons pe_non pa_nil)))))))) (pss_one (ps_if (pt_cmpR op_eq (pv 0) pe_int (nomark _)) (Evl.pss_cut (ps_set (i := 3) sc_sLawTold.nd rfl (Or.inl rfl) (pe_ix ix_list (pe_lst (pa_cons pe_non (pa_cons pe_str (pa_cons pe_bl (pa_cons (pe_lst (pa_cons pe_int pa_nil)) (pa_cons (pe_tup (pa_cons pe_int pa_nil)) (pa_cons (pe_op op_sub (pe_un un_neg pe_int) (pv 2)) (pa_cons pe_dnewK (pa_cons pe_str pa_nil))))))))) (pe_op op_mod (pv 1) pe_int) (fun _ _ => rfl)))
        (pss_one (ps_expr (pe_callS G_law_ask.ok (hr.mono (by decide)) (by rfl) G_law_ask.g G_law_ask.kp G_law_ask.b (fun σ => passAt tk σ) (pa_cons (pe_ix ix_tup (pe_tup (pa_cons pe_int (pa_cons pe_int (pa_cons pe_int pa_nil)))) (pe_op op_mod (pe_op op_fdiv (pv 1) pe_int) pe_int) (fun _ _ => rfl)) (pa_cons (pe_lst (pa_cons pe_int (pa_cons pe_int (pa_cons pe_int pa_nil)))) (pa_cons (pv 3) pa_nil))))))) (pss_one (ps_if (pt_cmpR op_eq (pv 0) pe_int (nomark _)) (pss_one (ps_expr (pe_callS G_weighing.ok (hr.mono (by decide)) (by rfl) G_weighing.g G_weighing.kp G_weighing.b (fun σ => passAt tk σ) (pa_cons (pe_lst (pa_cons pe_int (pa_cons pe_int (pa_cons pe_int pa_nil)))) (pa_cons (pe_ix ix_list (pe_lst (pa_cons pe_int (pa_cons (pe_op op_add pe_int (pv 2)) (pa_cons pe_int (pa_cons pe_int pa_nil))))) (pe_op op_mod (pv 1) pe_int) (fun _ _ => rfl)) pa_nil))))) (pss_one (ps_expr (pe_callS G_without.ok (hr.mono (by decide)) (by rfl) G_without.g G_without.kp G_without.b (fun σ => passAt tk σ) (pa_cons (pe_lst (pa_cons pe_int (pa_cons pe_int (pa_cons pe_int pa_nil)))) (pa_cons (pe_ix ix_list (pe_lst (pa_cons pe_non (pa_cons pe_str (pa_cons pe_bl (pa_cons (pe_lst (pa_cons pe_int pa_nil)) (pa_cons (pe_op op_sub (pe_un un_neg pe_int) (pv 2)) (pa_cons (pe_op op_add pe_int (pv 2)) (pa_cons (pe_tup (pa_cons pe_int pa_nil)) pa_nil)))))))) (pe_op op_mod (pv 1) pe_int) (fun _ _ => rfl)) pa_nil)))))))))))) (fun a oe cls d pn hz hf => (pss_cons (ps_set (i := 5) sc_sLawTold.nd rfl (Or.inl rfl) (pe_lst (pa_cons (pe_callB (call_isX hz hf) (by rfl) T.z_isinstance bt_isinstance (pa_cons (pv 4) (pa_cons (pe_glob (v := .ref c.BadSet) (by rfl) T.g_BadSet rfl) pa_nil))) (pa_cons (pe_callB (call_isX hz hf) (by rfl) T.z_isinstance bt_isinstance (pa_cons (pv 4) (pa_cons (pe_glob (v := .ref c.BadNumber) (by rfl) T.g_BadNumber rfl) pa_nil))) (pa_cons (pe_callB (call_isX hz hf) (by rfl) T.z_isinstance bt_isinstance (pa_cons (pv 4) (pa_cons (pe_glob (v := .ref c.BadPlace) (by rfl) T.g_BadPlace rfl) pa_nil))) pa_nil)))))
    (pss_one (ps_ret (pe_op op_cat (pv 5) (pe_lst (pa_cons (pe_callB (call_isX hz hf) (by rfl) T.z_isinstance bt_isinstance (pa_cons (pv 4) (pa_cons (pe_bltn (v := .ty "ValueError") (by rfl) T.z_ValueError bt_ValueError rfl) pa_nil))) pa_nil))))))))
  (pss_one (ps_ret (pe_lst pa_nil)))), ?_⟩
    refine w_start (σ := [some _, some _, some _, none, none, none, none]) rfl ?_
    wtm_at "w"
    refine v_if (fun hc => ?_) (fun hc => ?_)
    · have e0 := of_decide_eq_true hc
      subst e0
      wtm_at "w"
      refine w_cut (fun σ' H' => ∃ x : V, σ' = [some (.int 0), some (.int which), some (.int more), some x, none, none, none] ∧ Same H H' ∧ BadK K H' x) ?_ ?_
      · wtm_at "w"
        refine v_newL (n := 2) (by decide) fun a1 G1 m1 t1 e1 => ?_
        wtm_at "w"
        refine w_dnew fun a2 G2 m2 t2 e2 => ?_
        wtm_at "w"
        refine v_newL (n := 1) (by decide) fun a3 G3 m3 t3 e3 => ?_
        wtm_at "w"
        refine v_newL (n := 1) (by decide) fun a4 G4 m4 t4 e4 => ?_
        wtm_at "w"
        refine v_newL (n := 1) (by decide) fun a5 G5 m5 t5 e5 => ?_
        wtm_at "w"
        refine v_newL (n := 1) (by decide) fun a6 G6 m6 t6 e6 => ?_
        wtm_at "w"
        refine v_newL (n := 1) (by decide) fun a7 G7 m7 t7 e7 => ?_
        wtm_at "w"
        refine v_newL (n := 1) (by decide) fun a8 G8 m8 t8 e8 => ?_
        wtm_at "w"
        refine v_newL (n := 1) (by decide) fun a9 G9 m9 t9 e9 => ?_
        wtm_at "w"
        refine v_newL (n := 1) (by decide) fun a10 G10 m10 t10 e10 => ?_
        wtm_at "w"
        refine v_newL (n := 1) (by decide) fun a11 G11 m11 t11 e11 => ?_
        wtm_at "w"
        refine v_newL (n := 12) (by decide) fun a12 G12 m12 t12 e12 => ?_
        wtm_at "w"
        have hw : which % 12 = 0 ∨ which % 12 = 1 ∨ which % 12 = 2 ∨ which % 12 = 3 ∨ which % 12 = 4 ∨ which % 12 = 5 ∨ which % 12 = 6 ∨ which % 12 = 7 ∨ which % 12 = 8 ∨ which % 12 = 9 ∨ which % 12 = 10 ∨ which % 12 = 11 := by omega
        rcases hw with e | e | e | e | e | e | e | e | e | e | e | e
        · refine v_ixL (sq_h e12) (v := .non) (by rw [e]; exact atI_nat (j := 0) rfl) ?_
          wtm_at "w"
          exact ⟨_, rfl, (((((((((((t1.trans t2).trans t3).trans t4).trans t5).trans t6).trans t7).trans t8).trans t9).trans t10).trans t11).trans t12), .inl ⟨_, .base .non, kit_ty (r := false) (by decide +kernel)⟩⟩
        · refine v_ixL (sq_h e12) (v := (.int 5)) (by rw [e]; exact atI_nat (j := 1) rfl) ?_
          wtm_at "w"
          exact ⟨_, rfl, (((((((((((t1.trans t2).trans t3).trans t4).trans t5).trans t6).trans t7).trans t8).trans t9).trans t10).trans t11).trans t12), .inl ⟨_, .base (.int _), kit_ty (r := false) (by decide +kernel)⟩⟩
        · refine v_ixL (sq_h e12) (v := (.str "12")) (by rw [e]; exact atI_nat (j := 2) rfl) ?_
          wtm_at "w"
          exact ⟨_, rfl, (((((((((((t1.trans t2).trans t3).trans t4).trans t5).trans t6).trans t7).trans t8).trans t9).trans t10).trans t11).trans t12), .inl ⟨_, .base (.str _), kit_ty (r := false) (by decide +kernel)⟩⟩
        · refine v_ixL (sq_h e12) (v := (.ref a1)) (by rw [e]; exact atI_nat (j := 3) rfl) ?_
          wtm_at "w"
          exact ⟨_, rfl, (((((((((((t1.trans t2).trans t3).trans t4).trans t5).trans t6).trans t7).trans t8).trans t9).trans t10).trans t11).trans t12), .inl ⟨_, .base (.tup (xs := [.int 1, .int 2]) (by wtm_at "hp")), kit_ty (r := false) (by decide +kernel)⟩⟩
        · refine v_ixL (sq_h e12) (v := (.ref a2)) (by rw [e]; exact atI_nat (j := 4) rfl) ?_
          wtm_at "w"
          exact ⟨_, rfl, (((((((((((t1.trans t2).trans t3).trans t4).trans t5).trans t6).trans t7).trans t8).trans t9).trans t10).trans t11).trans t12), .inl ⟨_, .base (.dK (kvs := []) (by wtm_at "hp")), kit_ty (r := false) (by decide +kernel)⟩⟩
        · refine v_ixL (sq_h e12) (v := (.ref a3)) (by rw [e]; exact atI_nat (j := 5) rfl) ?_
          wtm_at "w"
          exact ⟨_, rfl, (((((((((((t1.trans t2).trans t3).trans t4).trans t5).trans t6).trans t7).trans t8).trans t9).trans t10).trans t11).trans t12), .inr ⟨a3, .int 0, rfl, by wtm_at "hp", fun _ _ => trivial, rfl⟩⟩
        · refine v_ixL (sq_h e12) (v := (.ref a4)) (by rw [e]; exact atI_nat (j := 6) rfl) ?_
          wtm_at "w"
          exact ⟨_, rfl, (((((((((((t1.trans t2).trans t3).trans t4).trans t5).trans t6).trans t7).trans t8).trans t9).trans t10).trans t11).trans t12), .inr ⟨a4, .int (-1 - more), rfl, by wtm_at "hp", fun _ _ => trivial, decide_eq_false (by omega)⟩⟩
        · refine v_ixL (sq_h e12) (v := (.ref a5)) (by rw [e]; exact atI_nat (j := 7) rfl) ?_
          wtm_at "w"
          exact ⟨_, rfl, (((((((((((t1.trans t2).trans t3).trans t4).trans t5).trans t6).trans t7).trans t8).trans t9).trans t10).trans t11).trans t12), .inr ⟨a5, .bl true, rfl, by wtm_at "hp", fun _ _ => trivial, rfl⟩⟩
        · refine v_ixL (sq_h e12) (v := (.ref a6)) (by rw [e]; exact atI_nat (j := 8) rfl) ?_
          wtm_at "w"
          exact ⟨_, rfl, (((((((((((t1.trans t2).trans t3).trans t4).trans t5).trans t6).trans t7).trans t8).trans t9).trans t10).trans t11).trans t12), .inr ⟨a6, .str "1", rfl, by wtm_at "hp", fun _ _ => trivial, rfl⟩⟩
        · refine v_ixL (sq_h e12) (v := (.ref a7)) (by rw [e]; exact atI_nat (j := 9) rfl) ?_
          wtm_at "w"
          exact ⟨_, rfl, (((((((((((t1.trans t2).trans t3).trans t4).trans t5).trans t6).trans t7).trans t8).trans t9).trans t10).trans t11).trans t12), .inr ⟨a7, .non, rfl, by wtm_at "hp", fun _ _ => trivial, rfl⟩⟩
        · refine v_ixL (sq_h e12) (v := (.ref a9)) (by rw [e]; exact atI_nat (j := 10) rfl) ?_
          wtm_at "w"
          exact ⟨_, rfl, (((((((((((t1.trans t2).trans t3).trans t4).trans t5).trans t6).trans t7).trans t8).trans t9).trans t10).trans t11).trans t12), .inr ⟨a9, .ref a8, rfl, by wtm_at "hp", okd_l (xs := [.int 1]) (by wtm_at "hp"), rfl⟩⟩
        · refine v_ixL (sq_h e12) (v := (.ref a11)) (by rw [e]; exact atI_nat (j := 11) rfl) ?_
          wtm_at "w"
          exact ⟨_, rfl, (((((((((((t1.trans t2).trans t3).trans t4).trans t5).trans t6).trans t7).trans t8).trans t9).trans t10).trans t11).trans t12), .inr ⟨a11, .ref a10, rfl, by wtm_at "hp", okd_t (xs := [.int 1]) (by wtm_at "hp"), rfl⟩⟩
      rintro σ' H1 ⟨x, rfl, s1, hb⟩
      refine w_cut (fun σ' H' => ∃ x : V, σ' = [some (.int 0), some (.int which), some (.int more), some x, none, none, none] ∧ Same H H' ∧ BadS K H' x) ?_ ?_
      · wtm_at "w"
        rcases hb with ⟨t, h1, h2⟩ | ⟨a, y, rfl, h1, h2, h3⟩
        · refine v_isi (.ty _) h1 h2 ?_
          wtm_at "w"
          refine v_iff rfl ?_
          wtm_at "w"
          exact ⟨_, rfl, s1, .inl ⟨t, h1, h2⟩⟩
        · refine v_isi (.ty _) (tyx_list (sq_h h1)) (kit_ty kb_ll) ?_
          wtm_at "w"
          refine v_ift rfl ?_
          wtm_at "w"
          have hn0 := Int.emod_nonneg more (show (6 : Int) ≠ 0 by decide)
          have hn1 := Int.emod_lt_of_pos more (show (0 : Int) < 6 by decide)
          refine v_lcR (σ2 := fun i => [some (.int 0), some (.int which), some (.int more), some (.ref a), none, none, some (.int (i : Int))]) (fun _ => true) (fun _ => .int (1 + more)) (by omega) hn0 (fun _ => rfl) (fun _ => rfl) (fun n H' _ _ R h => t_yes h) (fun n H' _ _ _ R h => ?_) (fun p2 H2 n2 s2 d2 => ?_)
          · wtm_at "w"
            exact h _ (Same.refl _)
          rw [filter_yes] at d2
          wtm_at "w"
          refine v_catV d2 (s2 _ _ h1) (by simp only [List.length_map, List.length_range, List.length_cons, List.length_nil]; omega) fun p3 H3 n3 s3 d3 => ?_
          wtm_at "w"
          refine v_newL (n := 1) (by decide) fun p4 H4 n4 s4 d4 => ?_
          wtm_at "w"
          have hr0 := Int.emod_nonneg more (show (3 : Int) ≠ 0 by decide)
          have hr1 := Int.emod_lt_of_pos more (show (0 : Int) < 3 by decide)
          refine v_rep d4 hr0 (by omega) fun p5 H5 n5 s5 d5 => ?_
          wtm_at "w"
          refine v_catV (s5 _ _ (s4 _ _ d3)) d5 (by simp only [List.length_append, List.length_map, List.length_range, List.length_cons, List.length_nil, List.length_replicate]; omega) fun p6 H6 n6 s6 d6 => ?_
          wtm_at "w"
          have sA := (((s2.trans s3).trans s4).trans s5).trans s6
          refine ⟨_, rfl, s1.trans sA, .inr ⟨p6, _, rfl, d6, by simp only [List.length_append, List.length_map, List.length_range, List.length_cons, List.length_nil, List.length_replicate]; omega, fun z hz H' s => ?_, ?_⟩⟩
          · rcases List.mem_append.mp hz with hz | hz
            · rcases List.mem_append.mp hz with hz | hz
              · obtain ⟨_, _, rfl⟩ := List.mem_map.mp hz
                trivial
              · rw [List.mem_singleton.mp hz]
                exact h2 H' (sA.trans s)
            · obtain ⟨_, _, rfl⟩ := List.mem_map.mp hz
              trivial
          · rw [List.all_append, List.all_append]
            simp [h3]
      rintro σ' H2 ⟨x2, rfl, s2, hb2⟩
      wtm_at "w"
      refine b_law_ask hb2 fun H3 s3 => ?_
      refine caught_ok T.ex_BadSet T.em_BadSet T.kk_BadSet_BadSet T.kk_BadSet_BadNumber T.kk_BadSet_BadPlace T.kv_BadSet fun p H4 n4 s4 d4 => ?_
      exact k p H4 ((s2.trans s3).free n4) ((s2.trans s3).trans s4) d4
    wtm_at "w"
    refine v_if (fun hc1 => ?_) (fun hc1 => ?_)
    · have e1 := of_decide_eq_true hc1
      subst e1
      wtm_at "w"
      refine w_cut (fun σ' H' => ∃ x : V, σ' = [some (.int 1), some (.int which), some (.int more), some x, none, none, none] ∧ Same H H' ∧ (∀ H2, Same H' H2 → Okd K H2 x) ∧ isNum x 0 = false) ?_ ?_
      · wtm_at "w"
        refine v_newL (n := 1) (by decide) fun a1 G1 m1 t1 e1 => ?_
        wtm_at "w"
        refine v_newL (n := 1) (by decide) fun a2 G2 m2 t2 e2 => ?_
        wtm_at "w"
        refine w_dnew fun a3 G3 m3 t3 e3 => ?_
        wtm_at "w"
        refine v_newL (n := 8) (by decide) fun a4 G4 m4 t4 e4 => ?_
        wtm_at "w"
        have hw : which % 8 = 0 ∨ which % 8 = 1 ∨ which % 8 = 2 ∨ which % 8 = 3 ∨ which % 8 = 4 ∨ which % 8 = 5 ∨ which % 8 = 6 ∨ which % 8 = 7 := by omega
        rcases hw with e | e | e | e | e | e | e | e
        · refine v_ixL (sq_h e4) (v := .non) (by rw [e]; exact atI_nat (j := 0) rfl) ?_
          wtm_at "w"
          exact ⟨_, rfl, (((t1.trans t2).trans t3).trans t4), fun _ _ => trivial, rfl⟩
        · refine v_ixL (sq_h e4) (v := (.str "1")) (by rw [e]; exact atI_nat (j := 1) rfl) ?_
          wtm_at "w"
          exact ⟨_, rfl, (((t1.trans t2).trans t3).trans t4), fun _ _ => trivial, rfl⟩
        · refine v_ixL (sq_h e4) (v := (.bl true)) (by rw [e]; exact atI_nat (j := 2) rfl) ?_
          wtm_at "w"
          exact ⟨_, rfl, (((t1.trans t2).trans t3).trans t4), fun _ _ => trivial, rfl⟩
        · refine v_ixL (sq_h e4) (v := (.ref a1)) (by rw [e]; exact atI_nat (j := 3) rfl) ?_
          wtm_at "w"
          exact ⟨_, rfl, (((t1.trans t2).trans t3).trans t4), okd_l (xs := [.int 1]) (by wtm_at "hp"), rfl⟩
        · refine v_ixL (sq_h e4) (v := (.ref a2)) (by rw [e]; exact atI_nat (j := 4) rfl) ?_
          wtm_at "w"
          exact ⟨_, rfl, (((t1.trans t2).trans t3).trans t4), okd_t (xs := [.int 1]) (by wtm_at "hp"), rfl⟩
        · refine v_ixL (sq_h e4) (v := (.int (-1 - more))) (by rw [e]; exact atI_nat (j := 5) rfl) ?_
          wtm_at "w"
          exact ⟨_, rfl, (((t1.trans t2).trans t3).trans t4), fun _ _ => trivial, decide_eq_false (by omega)⟩
        · refine v_ixL (sq_h e4) (v := (.ref a3)) (by rw [e]; exact atI_nat (j := 6) rfl) ?_
          wtm_at "w"
          exact ⟨_, rfl, (((t1.trans t2).trans t3).trans t4), okd_d (kvs := []) (by wtm_at "hp"), rfl⟩
        · refine v_ixL (sq_h e4) (v := (.str "x")) (by rw [e]; exact atI_nat (j := 7) rfl) ?_
          wtm_at "w"
          exact ⟨_, rfl, (((t1.trans t2).trans t3).trans t4), fun _ _ => trivial, rfl⟩
      rintro σ' H1 ⟨x, rfl, s1, hb⟩
      wtm_at "w"
      refine v_newL (n := 3) (by decide) fun q2 H2 n2 s2 d2 => ?_
      wtm_at "w"
      have hq : ∀ d : Int, (d = 0 ∨ d = 2 ∨ d = 3) → tCons (tLst (tCons (tC (.int 1)) (tCons (tC (.int 2)) (tCons (tC (.int 4)) tNil)))) (tCons (tVar 3) tNil) [some (.int 1), some (.int which), some (.int more), some x, none, none, none] H2 (fun vs H' => sp_law_ask K c (.int d :: vs) H' (fun _ _ => False) fun cls dd H'' => cls = .ref c.BadNumber ∧ dd = none ∧ Same H H'') := fun d hd => by
        wtm_at "w"
        refine v_newL (n := 3) (by decide) fun q3 H3 n3 s3 d3 => ?_
        wtm_at "w"
        refine n_law_ask hd (ws := [1, 2, 4]) (sq_h d3) (fun z hz => by simp at hz; omega) (by decide) ⟨fun H' s => hb.1 H' ((s2.trans s3).trans s), hb.2⟩ fun H4 s4 => ?_
        exact ⟨rfl, rfl, ((s1.trans s2).trans s3).trans s4⟩
      clear hq
      have hw : which / 8 % 3 = 0 ∨ which / 8 % 3 = 1 ∨ which / 8 % 3 = 2 := by omega
      rcases hw with e | e | e
      · refine v_ixT (st_h d2) (v := .int 0) (by rw [e]; exact atI_nat (j := 0) rfl) ?_
        wtm_at "w"
        refine v_newL (n := 3) (by decide) fun q3 H3 n3 s3 d3 => ?_
        wtm_at "w"
        refine n_law_ask (by decide) (ws := [1, 2, 4]) (sq_h d3) (fun z hz => by simp at hz; omega) (by decide) ⟨fun H' s => hb.1 H' ((s2.trans s3).trans s), hb.2⟩ fun H4 s4 => ?_
        have sA := ((s1.trans s2).trans s3).trans s4
        refine caught_ok T.ex_BadNumber T.em_BadNumber T.kk_BadNumber_BadSet T.kk_BadNumber_BadNumber T.kk_BadNumber_BadPlace T.kv_BadNumber fun p H5 n5 s5 d5 => ?_
        exact k p H5 (sA.free n5) (sA.trans s5) d5
      · refine v_ixT (st_h d2) (v := .int 2) (by rw [e]; exact atI_nat (j := 1) rfl) ?_
        wtm_at "w"
        refine v_newL (n := 3) (by decide) fun q3 H3 n3 s3 d3 => ?_
        wtm_at "w"
        refine n_law_ask (by decide) (ws := [1, 2, 4]) (sq_h d3) (fun z hz => by simp at hz; omega) (by decide) ⟨fun H' s => hb.1 H' ((s2.trans s3).trans s), hb.2⟩ fun H4 s4 => ?_
        have sA := ((s1.trans s2).trans s3).trans s4
        refine caught_ok T.ex_BadNumber T.em_BadNumber T.kk_BadNumber_BadSet T.kk_BadNumber_BadNumber T.kk_BadNumber_BadPlace T.kv_BadNumber fun p H5 n5 s5 d5 => ?_
        exact k p H5 (sA.free n5) (sA.trans s5) d5
      · refine v_ixT (st_h d2) (v := .int 3) (by rw [e]; exact atI_nat (j := 2) rfl) ?_
        wtm_at "w"
        refine v_newL (n := 3) (by decide) fun q3 H3 n3 s3 d3 => ?_
        wtm_at "w"
        refine n_law_ask (by decide) (ws := [1, 2, 4]) (sq_h d3) (fun z hz => by simp at hz; omega) (by decide) ⟨fun H' s => hb.1 H' ((s2.trans s3).trans s), hb.2⟩ fun H4 s4 => ?_
        have sA := ((s1.trans s2).trans s3).trans s4
        refine caught_ok T.ex_BadNumber T.em_BadNumber T.kk_BadNumber_BadSet T.kk_BadNumber_BadNumber T.kk_BadNumber_BadPlace T.kv_BadNumber fun p H5 n5 s5 d5 => ?_
        exact k p H5 (sA.free n5) (sA.trans s5) d5
    wtm_at "w"
    refine v_if (fun hc2 => ?_) (fun hc2 => ?_)
    · have e2 := of_decide_eq_true hc2
      subst e2
      wtm_at "w"
      refine v_newL (n := 3) (by decide) fun q1 H1 n1 s1 d1 => ?_
      wtm_at "w"
      refine v_newL (n := 4) (by decide) fun a1 G1 m1 t1 e1 => ?_
      wtm_at "w"
      have hw : which % 4 = 0 ∨ which % 4 = 1 ∨ which % 4 = 2 ∨ which % 4 = 3 := by omega
      rcases hw with e | e | e | e
      · refine v_ixL (sq_h e1) (v := (.int 4)) (by rw [e]; exact atI_nat (j := 0) rfl) ?_
        wtm_at "w"
        have sA := s1.trans t1
        refine n_weighing (ws := [1, 2, 9]) (sq_h (t1 _ _ d1)) (fun z hz => by simp at hz; omega) (by decide) ⟨fun _ _ => trivial, .inr ⟨_, rfl, by omega, ?_⟩⟩ fun H4 s4 => ?_
        · have : fm [1, 2, 9] = 4 := by decide
          omega
        refine caught_ok T.ex_BadNumber T.em_BadNumber T.kk_BadNumber_BadSet T.kk_BadNumber_BadNumber T.kk_BadNumber_BadPlace T.kv_BadNumber fun p H5 n5 s5 d5 => ?_
        exact k p H5 ((sA.trans s4).free n5) ((sA.trans s4).trans s5) d5
      · refine v_ixL (sq_h e1) (v := (.int (4 + more))) (by rw [e]; exact atI_nat (j := 1) rfl) ?_
        wtm_at "w"
        have sA := s1.trans t1
        refine n_weighing (ws := [1, 2, 9]) (sq_h (t1 _ _ d1)) (fun z hz => by simp at hz; omega) (by decide) ⟨fun _ _ => trivial, .inr ⟨_, rfl, by omega, ?_⟩⟩ fun H4 s4 => ?_
        · have : fm [1, 2, 9] = 4 := by decide
          omega
        refine caught_ok T.ex_BadNumber T.em_BadNumber T.kk_BadNumber_BadSet T.kk_BadNumber_BadNumber T.kk_BadNumber_BadPlace T.kv_BadNumber fun p H5 n5 s5 d5 => ?_
        exact k p H5 ((sA.trans s4).free n5) ((sA.trans s4).trans s5) d5
      · refine v_ixL (sq_h e1) (v := (.int 9)) (by rw [e]; exact atI_nat (j := 2) rfl) ?_
        wtm_at "w"
        have sA := s1.trans t1
        refine n_weighing (ws := [1, 2, 9]) (sq_h (t1 _ _ d1)) (fun z hz => by simp at hz; omega) (by decide) ⟨fun _ _ => trivial, .inr ⟨_, rfl, by omega, ?_⟩⟩ fun H4 s4 => ?_
        · have : fm [1, 2, 9] = 4 := by decide
          omega
        refine caught_ok T.ex_BadNumber T.em_BadNumber T.kk_BadNumber_BadSet T.kk_BadNumber_BadNumber T.kk_BadNumber_BadPlace T.kv_BadNumber fun p H5 n5 s5 d5 => ?_
        exact k p H5 ((sA.trans s4).free n5) ((sA.trans s4).trans s5) d5
      · refine v_ixL (sq_h e1) (v := (.int 12)) (by rw [e]; exact atI_nat (j := 3) rfl) ?_
        wtm_at "w"
        have sA := s1.trans t1
        refine n_weighing (ws := [1, 2, 9]) (sq_h (t1 _ _ d1)) (fun z hz => by simp at hz; omega) (by decide) ⟨fun _ _ => trivial, .inr ⟨_, rfl, by omega, ?_⟩⟩ fun H4 s4 => ?_
        · have : fm [1, 2, 9] = 4 := by decide
          omega
        refine caught_ok T.ex_BadNumber T.em_BadNumber T.kk_BadNumber_BadSet T.kk_BadNumber_BadNumber T.kk_BadNumber_BadPlace T.kv_BadNumber fun p H5 n5 s5 d5 => ?_
        exact k p H5 ((sA.trans s4).free n5) ((sA.trans s4).trans s5) d5
    · have e3 : kind = 3 := by
        have h0 := of_decide_eq_false hc
        have h1 := of_decide_eq_false hc1
        have h2 := of_decide_eq_false hc2
        omega
      subst e3
      wtm_at "w"
      refine v_newL (n := 3) (by decide) fun q1 H1 n1 s1 d1 => ?_
      wtm_at "w"
      refine v_newL (n := 1) (by decide) fun a1 G1 m1 t1 e1 => ?_
      wtm_at "w"
      refine v_newL (n := 1) (by decide) fun a2 G2 m2 t2 e2 => ?_
      wtm_at "w"
      refine v_newL (n := 7) (by decide) fun a3 G3 m3 t3 e3 => ?_
      wtm_at "w"
      have hw : which % 7 = 0 ∨ which % 7 = 1 ∨ which % 7 = 2 ∨ which % 7 = 3 ∨ which % 7 = 4 ∨ which % 7 = 5 ∨ which % 7 = 6 := by omega
      rcases hw with e | e | e | e | e | e | e
      · refine v_ixL (sq_h e3) (v := .non) (by rw [e]; exact atI_nat (j := 0) rfl) ?_
        wtm_at "w"
        have hN : BadN K G3 .non 0 (([1, 2, 4] : List Int).length : Int) := ⟨fun _ _ => trivial, .inl rfl⟩
        have sA := s1.trans ((t1.trans t2).trans t3)
        refine n_without (ws := [1, 2, 4]) (sq_h (((t1.trans t2).trans t3) _ _ d1)) (fun z hz => by simp at hz; omega) (by decide) hN fun H4 s4 => ?_
        refine caught_ok T.ex_BadPlace T.em_BadPlace T.kk_BadPlace_BadSet T.kk_BadPlace_BadNumber T.kk_BadPlace_BadPlace T.kv_BadPlace fun p H5 n5 s5 d5 => ?_
        exact k p H5 ((sA.trans s4).free n5) ((sA.trans s4).trans s5) d5
      · refine v_ixL (sq_h e3) (v := (.str "1")) (by rw [e]; exact atI_nat (j := 1) rfl) ?_
        wtm_at "w"
        have hN : BadN K G3 (.str "1") 0 (([1, 2, 4] : List Int).length : Int) := ⟨fun _ _ => trivial, .inl rfl⟩
        have sA := s1.trans ((t1.trans t2).trans t3)
        refine n_without (ws := [1, 2, 4]) (sq_h (((t1.trans t2).trans t3) _ _ d1)) (fun z hz => by simp at hz; omega) (by decide) hN fun H4 s4 => ?_
        refine caught_ok T.ex_BadPlace T.em_BadPlace T.kk_BadPlace_BadSet T.kk_BadPlace_BadNumber T.kk_BadPlace_BadPlace T.kv_BadPlace fun p H5 n5 s5 d5 => ?_
        exact k p H5 ((sA.trans s4).free n5) ((sA.trans s4).trans s5) d5
      · refine v_ixL (sq_h e3) (v := (.bl true)) (by rw [e]; exact atI_nat (j := 2) rfl) ?_
        wtm_at "w"
        have hN : BadN K G3 (.bl true) 0 (([1, 2, 4] : List Int).length : Int) := ⟨fun _ _ => trivial, .inl rfl⟩
        have sA := s1.trans ((t1.trans t2).trans t3)
        refine n_without (ws := [1, 2, 4]) (sq_h (((t1.trans t2).trans t3) _ _ d1)) (fun z hz => by simp at hz; omega) (by decide) hN fun H4 s4 => ?_
        refine caught_ok T.ex_BadPlace T.em_BadPlace T.kk_BadPlace_BadSet T.kk_BadPlace_BadNumber T.kk_BadPlace_BadPlace T.kv_BadPlace fun p H5 n5 s5 d5 => ?_
        exact k p H5 ((sA.trans s4).free n5) ((sA.trans s4).trans s5) d5
      · refine v_ixL (sq_h e3) (v := (.ref a1)) (by rw [e]; exact atI_nat (j := 3) rfl) ?_
        wtm_at "w"
        have hN : BadN K G3 (.ref a1) 0 (([1, 2, 4] : List Int).length : Int) := ⟨okd_l (xs := [.int 1]) (by wtm_at "hp"), .inl rfl⟩
        have sA := s1.trans ((t1.trans t2).trans t3)
        refine n_without (ws := [1, 2, 4]) (sq_h (((t1.trans t2).trans t3) _ _ d1)) (fun z hz => by simp at hz; omega) (by decide) hN fun H4 s4 => ?_
        refine caught_ok T.ex_BadPlace T.em_BadPlace T.kk_BadPlace_BadSet T.kk_BadPlace_BadNumber T.kk_BadPlace_BadPlace T.kv_BadPlace fun p H5 n5 s5 d5 => ?_
        exact k p H5 ((sA.trans s4).free n5) ((sA.trans s4).trans s5) d5
      · refine v_ixL (sq_h e3) (v := (.int (-1 - more))) (by rw [e]; exact atI_nat (j := 4) rfl) ?_
        wtm_at "w"
        have hN : BadN K G3 (.int (-1 - more)) 0 (([1, 2, 4] : List Int).length : Int) := ⟨fun _ _ => trivial, .inl (decide_eq_false (by omega))⟩
        have sA := s1.trans ((t1.trans t2).trans t3)
        refine n_without (ws := [1, 2, 4]) (sq_h (((t1.trans t2).trans t3) _ _ d1)) (fun z hz => by simp at hz; omega) (by decide) hN fun H4 s4 => ?_
        refine caught_ok T.ex_BadPlace T.em_BadPlace T.kk_BadPlace_BadSet T.kk_BadPlace_BadNumber T.kk_BadPlace_BadPlace T.kv_BadPlace fun p H5 n5 s5 d5 => ?_
        exact k p H5 ((sA.trans s4).free n5) ((sA.trans s4).trans s5) d5
      · refine v_ixL (sq_h e3) (v := (.int (3 + more))) (by rw [e]; exact atI_nat (j := 5) rfl) ?_
        wtm_at "w"
        have hN : BadN K G3 (.int (3 + more)) 0 (([1, 2, 4] : List Int).length : Int) := ⟨fun _ _ => trivial, .inr ⟨_, rfl, by omega, by simp; omega⟩⟩
        have sA := s1.trans ((t1.trans t2).trans t3)
        refine n_without (ws := [1, 2, 4]) (sq_h (((t1.trans t2).trans t3) _ _ d1)) (fun z hz => by simp at hz; omega) (by decide) hN fun H4 s4 => ?_
        refine caught_ok T.ex_BadPlace T.em_BadPlace T.kk_BadPlace_BadSet T.kk_BadPlace_BadNumber T.kk_BadPlace_BadPlace T.kv_BadPlace fun p H5 n5 s5 d5 => ?_
        exact k p H5 ((sA.trans s4).free n5) ((sA.trans s4).trans s5) d5
      · refine v_ixL (sq_h e3) (v := (.ref a2)) (by rw [e]; exact atI_nat (j := 6) rfl) ?_
        wtm_at "w"
        have hN : BadN K G3 (.ref a2) 0 (([1, 2, 4] : List Int).length : Int) := ⟨okd_t (xs := [.int 0]) (by wtm_at "hp"), .inl rfl⟩
        have sA := s1.trans ((t1.trans t2).trans t3)
        refine n_without (ws := [1, 2, 4]) (sq_h (((t1.trans t2).trans t3) _ _ d1)) (fun z hz => by simp at hz; omega) (by decide) hN fun H4 s4 => ?_
        refine caught_ok T.ex_BadPlace T.em_BadPlace T.kk_BadPlace_BadSet T.kk_BadPlace_BadNumber T.kk_BadPlace_BadPlace T.kv_BadPlace fun p H5 n5 s5 d5 => ?_
        exact k p H5 ((sA.trans s4).free n5) ((sA.trans s4).trans s5) d5
/-! ### the law -/
def sp_law (K : PySem.W.Frag) : Sp := fun vs H Q _ => ∃ (a : Addr) (ns : List Int), vs = [.ref a] ∧ SqL K H a (ns.map V.int) ∧ ns.length ≤ 63 ∧ (∀ z ∈ ns, Builtin.Int.intBits z ≤ AA) ∧ ∀ H', Q (.bl true) H'
theorem law_ask {K : PySem.W.Frag} {H : Hp} (a : Addr) (ns : List Int) (h : ns.length ≤ 63) (hb : ∀ z ∈ ns, Builtin.Int.intBits z ≤ 1048576) (hS : SqL K H a (ns.map V.int)) : sp_law K [.ref a] H (fun v _ => v = .bl true) fun _ _ _ => False := ⟨a, ns, rfl, hS, h, hb, fun _ => rfl⟩
theorem ok_law {f f0 f1 f2 f3 : Addr} {fd fd0 fd1 fd2 fd3 : FuncData} (A : At K mg "law" sLaw ["_law_script"] f fd) (T : Tx K mg c) (G_first_gap : FnAt P w K mg base (L2.CX P w) 3 "first_gap" ["weights"] (sp_first_gap K c) f0 fd0) (G_weighing : FnAt P w K mg base (L2.CX P w) 3 "weighing" ["weights", "number"] (sp_weighing K c) f1 fd1) (G_fewest : FnAt P w K mg base (L2.CX P w) 3 "fewest" ["weights", "most"] (sp_fewest K c) f2 fd2) (G_law_told : FnAt P w K mg base CX0 5 "_law_told" ["_law_kind", "_law_which", "_law_more"] (sp_law_told K c) f3 fd3) : FnAt P w K mg base CX0 6 "law" ["_law_script"] (sp_law K) f fd := by
  refine ⟨A.g, A.F.kp, A.b, A.F.ok sc_sLaw (fun vs H Q E h => ?_) (fun cdv Ar outer s H vs Q E hr h => ?_)⟩
  · obtain ⟨a, ns, rfl, _⟩ := h
    rfl
  · obtain ⟨a, ns, rfl, hS, hz, hbits, k⟩ := h
    have hcB := T.c_Best
    have hnA := T.n_Best_added
    have hnM := T.n_Best_misses
    have hNN : NN = 10000 := rfl
    refine ⟨(tSeq (tFor (iList K (tVar 0)) (gName 1) (tSeq (tAsg (tOp (rI (fun _ j => 0 < j) fun i j => .int (i % j)) (tVar 1) (tC (.int 4))) (gName 2))
  (tSeq (tAsg (tLst (tCons (tOp rEq (tVar 2) (tC (.int 0))) (tCons (tOp (rIn K false) (tVar 2) (tLst (tCons (tC (.int 1)) (tCons (tC (.int 2)) tNil)))) (tCons (tOp rEq (tVar 2) (tC (.int 3))) (tCons (tC (.bl true)) tNil))))) (gName 3))
  (tIfS (tTest (tOp (rNeD K) (tCall (sp_law_told K c) [] E0 (tCons (tVar 2) (tCons (tOp (rI (fun _ j => 0 < j) fun i j => .int (i % j)) (tOp (rI CDiv fun i j => .int (i / j)) (tVar 1) (tC (.int 4))) (tC (.int 100000))) (tCons (tOp (rI (fun _ j => 0 < j) fun i j => .int (i % j)) (tOp (rI CDiv fun i j => .int (i / j)) (tVar 1) (tC (.int 400000))) (tC (.int 1000))) tNil)))) (tVar 3))) (tRet (tC (.bl false))) tNext))))
  (tRet (tAndV (tOp rEq (tCall (sp_first_gap K c) [] E0 (tCons (tLst (tCons (tOp (rI CPow fun i j => .int (i ^ j.toNat)) (tC (.int 10)) (tC (.int 60))) tNil)) tNil)) (tC (.int 1))) (tAndV (tOp (rEqD K) (tCall (sp_weighing K c) [] E0 (tCons (tLst (tCons (tC (.int 1)) (tCons (tC (.int 1)) tNil))) (tCons (tC (.int 2)) tNil))) (tLst (tCons (tC (.int 0)) (tCons (tC (.int 1)) tNil)))) (tOp (rEqD K) (tFld K (tCall (sp_fewest K c) [] E0 (tCons (tLst (tCons (tOp (rI CPow fun i j => .int (i ^ j.toNat)) (tC (.int 10)) (tC (.int 60))) tNil)) (tCons (tC (.int 1)) tNil))) "added") (tLst (tCons (tC (.int 1)) tNil))))))), (pss_cons (ps_for PassesOwn.never rfl (pi_list (pv 0)) (pg_name (i := 1) sc_sLaw.nd rfl (Or.inl rfl)) (pss_cons (ps_set (i := 2) sc_sLaw.nd rfl (Or.inl rfl) (pe_op op_mod (pv 1) pe_int))
    (pss_cons (ps_set (i := 3) sc_sLaw.nd rfl (Or.inl rfl) (pe_lst (pa_cons (pe_cmpR op_eq (pv 2) pe_int (nomark _)) (pa_cons (pe_cmpR op_in_seq (pv 2) (pe_lst (pa_cons pe_int (pa_cons pe_int pa_nil))) (by rfl)) (pa_cons (pe_cmpR op_eq (pv 2) pe_int (nomark _)) (pa_cons pe_bl pa_nil))))))
    (pss_one (ps_if (pt_cmpR (op_neD hr.units) (pe_call G_law_told.ok (hr.mono (by decide)) (by rfl) G_law_told.g G_law_told.kp G_law_told.b .nil pass0 (pa_cons (pv 2) (pa_cons (pe_op op_mod (pe_op op_fdiv (pv 1) pe_int) pe_int) (pa_cons (pe_op op_mod (pe_op op_fdiv (pv 1) pe_int) pe_int) pa_nil)))) (pv 3) (nomark _)) (pss_one (ps_ret pe_bl)) pss_nil)))))
  (pss_one (ps_ret (pe_and (pe_cmpR op_eq (pe_call G_first_gap.ok (hr.mono (by decide)) (by rfl) G_first_gap.g G_first_gap.kp G_first_gap.b .nil passX0 (pa_cons (pe_lst (pa_cons (pe_op op_pow pe_int pe_int) pa_nil)) pa_nil)) pe_int (nomark _)) (pe_and (pe_cmpR (op_eqD hr.units) (pe_call G_weighing.ok (hr.mono (by decide)) (by rfl) G_weighing.g G_weighing.kp G_weighing.b .nil passX0 (pa_cons (pe_lst (pa_cons pe_int (pa_cons pe_int pa_nil))) (pa_cons pe_int pa_nil))) (pe_lst (pa_cons pe_int (pa_cons pe_int pa_nil))) (nomark _)) (pe_one (pe_cmpR (op_eqD hr.units) (pe_fld (pe_call G_fewest.ok (hr.mono (by decide)) (by rfl) G_fewest.g G_fewest.kp G_fewest.b .nil passX0 (pa_cons (pe_lst (pa_cons (pe_op op_pow pe_int pe_int) pa_nil)) (pa_cons pe_int pa_nil))) rfl) (pe_lst (pa_cons pe_int pa_nil)) (nomark _)))))))), ?_⟩
    refine w_start (σ := [some _, none, none, none]) rfl ?_
    wtm_at "w"
    refine v_forI hS (fun r σ' H' => ∃ y1 y2 y3 : Option V, σ' = [some (.ref a), y1, y2, y3] ∧ Same H H') ⟨_, _, _, rfl, Same.refl _⟩ (fun r σ' H' h => by obtain ⟨_, _, _, _, s⟩ := h; exact s.seq hS) ?_ ?_
    · rintro pre x r σ' H' _ ⟨y1, y2, y3, rfl, sE⟩
      wtm_at "w"
      have hk0 := Int.emod_nonneg x (show (4 : Int) ≠ 0 by decide)
      have hk1 := Int.emod_lt_of_pos x (show (0 : Int) < 4 by decide)
      generalize x % 4 = kind at hk0 hk1
      refine v_newL (n := 2) (by decide) fun q1 H1 n1 s1 d1 => ?_
      refine v_in (ns := [1, 2]) (sq_h d1) ?_
      wtm_at "w"
      refine v_newL (n := 4) (by decide) fun q2 H2 n2 s2 d2 => ?_
      wtm_at "w"
      refine c_law_told hk0 hk1 (Int.emod_nonneg _ (by decide)) (Int.emod_lt_of_pos _ (by decide)) fun p H3 n3 s3 d3 => ?_
      wtm_at "w"
      refine v_neLB (ns := told4 kind) (ms := told4 kind) (sq_h d3) (sq_h (s3 _ _ d2)) ?_
      wtm_at "w"
      refine v_iff (by simp) ?_
      wtm_at "w"
      exact ⟨_, _, _, rfl, sE.trans ((s1.trans s2).trans s3)⟩
    · rintro σ' H' ⟨y1, y2, y3, rfl, sE⟩
      wtm_at "w"
      have e60 : (10 : Int) ^ (60 : Int).toNat = 1000000000000000000000000000000000000000000000000000000000000 := by decide
      rw [e60]
      refine v_newL (n := 1) (by decide) fun q1 H1 n1 s1 d1 => ?_
      wtm_at "w"
      refine c_first_gap (ns := [1000000000000000000000000000000000000000000000000000000000000]) (sq_h d1) (fun z hz => by simp at hz; omega) (by decide) fun H2 s2 => ?_
      wtm_at "w"
      rw [show decide (fm [1000000000000000000000000000000000000000000000000000000000000] = 1) = true by decide]
      refine v_andV (d := true) (fun _ q hq => ?_) (fun J5 j5 => k _)
      wtm_at "w"
      refine v_newL (n := 2) (by decide) fun q3 H3 n3 s3 d3 => ?_
      wtm_at "w"
      refine c_weighing (ws := [1, 1]) (n := 2) (sq_h d3) (fun z hz => by simp at hz; omega) (by decide) (by decide) (by decide) fun q4 H4 n4 s4 d4 => ?_
      wtm_at "w"
      refine v_newL (n := 2) (by decide) fun q5 H5 n5 s5 d5 => ?_
      wtm_at "w"
      refine v_eqL (ms := [0, 1]) (sq_h (s5 _ _ d4)) (sq_h d5) ?_
      wtm_at "w"
      rw [show decide (wg [1, 1] 2 = [0, 1]) = true by decide]
      refine v_andV (d := true) (fun _ q' hq' => ?_) (fun J6 j6 => hq _ (((s3.trans s4).trans s5).trans j6))
      wtm_at "w"
      rw [e60]
      refine v_newL (n := 1) (by decide) fun q6 H6 n6 s6 d6 => ?_
      wtm_at "w"
      have h1N : (1 : Int) < 2 ^ NN := by
        have : (2 : Nat) ^ 1 ≤ 2 ^ NN := Nat.pow_le_pow_right (by decide) (by decide)
        have h2 : ((2 ^ 1 : Nat) : Int) ≤ ((2 ^ NN : Nat) : Int) := Int.ofNat_le.mpr this
        have h3 : ((2 ^ NN : Nat) : Int) = 2 ^ NN := by exact_mod_cast rfl
        rw [h3] at h2
        exact Int.lt_of_lt_of_le (by decide) h2
      refine c_fewest (ws := [1000000000000000000000000000000000000000000000000000000000000]) (m := 1) (sq_h d6) (fun z hz => by simp at hz; omega) (by decide) (by decide) h1N fun o dx l k2 H7 no nl nk ne s7 fo fl fk hfl => ?_
      have hf1 := bestF_added l k2
      wtm_at "w"
      refine v_newL (n := 1) (by decide) fun q8 H8 n8 s8 d8 => ?_
      wtm_at "w"
      refine v_eqL (ms := [1]) (sq_h (s8 _ _ fl)) (sq_h d8) ?_
      rw [show decide (few [1000000000000000000000000000000000000000000000000000000000000] 1 = [1]) = true by decide]
      exact hq' _ ((s6.trans s7).trans s8)
theorem all_mk {l : PySem.W.OpenLaw} {w : World} {K : PySem.W.Frag} {h : Heap} {mg : Str → Option Value} {fa : Addr} {xAll xGap xBest xAnswer xWeightError xBadSet xBadNumber xBadPlace : Addr} (X : K.In h) (G : h.Ns mainGlobals mg) (hfa : mg "law" = some (.ref fa))
    {f0 : Addr} {od0 an0 : Option Addr} {sl0 : Array (Option Value)} {oc0 kV0 dc0 pm0 cd0 ct0 : Value}
    {f1 : Addr} {od1 an1 : Option Addr} {sl1 : Array (Option Value)} {oc1 kV1 dc1 pm1 cd1 ct1 : Value}
    {f2 : Addr} {od2 an2 : Option Addr} {sl2 : Array (Option Value)} {oc2 kV2 dc2 pm2 cd2 ct2 : Value}
    {f3 : Addr} {od3 an3 : Option Addr} {sl3 : Array (Option Value)} {oc3 kV3 dc3 pm3 cd3 ct3 : Value}
    {f4 : Addr} {od4 an4 : Option Addr} {sl4 : Array (Option Value)} {oc4 kV4 dc4 pm4 cd4 ct4 : Value}
    {f5 : Addr} {od5 an5 : Option Addr} {sl5 : Array (Option Value)} {oc5 kV5 dc5 pm5 cd5 ct5 : Value}
    {f6 : Addr} {od6 an6 : Option Addr} {sl6 : Array (Option Value)} {oc6 kV6 dc6 pm6 cd6 ct6 : Value}
    {f7 : Addr} {od7 an7 : Option Addr} {sl7 : Array (Option Value)} {oc7 kV7 dc7 pm7 cd7 ct7 : Value}
    {f8 : Addr} {od8 an8 : Option Addr} {sl8 : Array (Option Value)} {oc8 kV8 dc8 pm8 cd8 ct8 : Value}
    {f9 : Addr} {od9 an9 : Option Addr} {sl9 : Array (Option Value)} {oc9 kV9 dc9 pm9 cd9 ct9 : Value}
    {f10 : Addr} {od10 an10 : Option Addr} {sl10 : Array (Option Value)} {oc10 kV10 dc10 pm10 cd10 ct10 : Value}
    {f11 : Addr} {od11 an11 : Option Addr} {sl11 : Array (Option Value)} {oc11 kV11 dc11 pm11 cd11 ct11 : Value}
    {f12 : Addr} {od12 an12 : Option Addr} {sl12 : Array (Option Value)} {oc12 kV12 dc12 pm12 cd12 ct12 : Value}
    {f13 : Addr} {od13 an13 : Option Addr} {sl13 : Array (Option Value)} {oc13 kV13 dc13 pm13 cd13 ct13 : Value}
    {f14 : Addr} {od14 an14 : Option Addr} {sl14 : Array (Option Value)} {oc14 kV14 dc14 pm14 cd14 ct14 : Value}
    {f15 : Addr} {od15 an15 : Option Addr} {sl15 : Array (Option Value)} {oc15 kV15 dc15 pm15 cd15 ct15 : Value}
    {f16 : Addr} {od16 an16 : Option Addr} {sl16 : Array (Option Value)} {oc16 kV16 dc16 pm16 cd16 ct16 : Value}
    {f17 : Addr} {od17 an17 : Option Addr} {sl17 : Array (Option Value)} {oc17 kV17 dc17 pm17 cd17 ct17 : Value}
    (gAll : PySem.W.nsIn K mainGlobals "All" = some (some (.ref xAll)))
    (gGap : PySem.W.nsIn K mainGlobals "Gap" = some (some (.ref xGap)))
    (gBest : PySem.W.nsIn K mainGlobals "Best" = some (some (.ref xBest)))
    (gAnswer : PySem.W.nsIn K mainGlobals "Answer" = some (some (.ref xAnswer)))
    (gWeightError : PySem.W.nsIn K mainGlobals "WeightError" = some (some (.ref xWeightError)))
    (gBadSet : PySem.W.nsIn K mainGlobals "BadSet" = some (some (.ref xBadSet)))
    (gBadNumber : PySem.W.nsIn K mainGlobals "BadNumber" = some (some (.ref xBadNumber)))
    (gBadPlace : PySem.W.nsIn K mainGlobals "BadPlace" = some (some (.ref xBadPlace)))
    (a0 : PySem.W.nsIn K mainGlobals "_wall" = some (some (.ref f0)))
    (l0 : K.lookup f0 = some ⟨oc0, od0, .func (PySem.W.fnOf "_wall" "_wall" (defArgs sWall) (defBody sWall) (defScope sWall) .none kV0 dc0 pm0 an0 cd0 ct0), sl0⟩) (c0 : PySem.W.codeIn K cd0 "_wall" = true) (k0 : PySem.W.keepIn K (.ref f0) = true)
    (a1 : PySem.W.nsIn K mainGlobals "is_number" = some (some (.ref f1)))
    (l1 : K.lookup f1 = some ⟨oc1, od1, .func (PySem.W.fnOf "is_number" "is_number" (defArgs sIsNumber) (defBody sIsNumber) (defScope sIsNumber) .none kV1 dc1 pm1 an1 cd1 ct1), sl1⟩) (c1 : PySem.W.codeIn K cd1 "is_number" = true) (k1 : PySem.W.keepIn K (.ref f1) = true)
    (a2 : PySem.W.nsIn K mainGlobals "asked_set" = some (some (.ref f2)))
    (l2 : K.lookup f2 = some ⟨oc2, od2, .func (PySem.W.fnOf "asked_set" "asked_set" (defArgs sAskedSet) (defBody sAskedSet) (defScope sAskedSet) .none kV2 dc2 pm2 an2 cd2 ct2), sl2⟩) (c2 : PySem.W.codeIn K cd2 "asked_set" = true) (k2 : PySem.W.keepIn K (.ref f2) = true)
    (a3 : PySem.W.nsIn K mainGlobals "first_missing" = some (some (.ref f3)))
    (l3 : K.lookup f3 = some ⟨oc3, od3, .func (PySem.W.fnOf "first_missing" "first_missing" (defArgs sFirstMissing) (defBody sFirstMissing) (defScope sFirstMissing) .none kV3 dc3 pm3 an3 cd3 ct3), sl3⟩) (c3 : PySem.W.codeIn K cd3 "first_missing" = true) (k3 : PySem.W.keepIn K (.ref f3) = true)
    (a4 : PySem.W.nsIn K mainGlobals "first_gap" = some (some (.ref f4)))
    (l4 : K.lookup f4 = some ⟨oc4, od4, .func (PySem.W.fnOf "first_gap" "first_gap" (defArgs sFirstGap) (defBody sFirstGap) (defScope sFirstGap) .none kV4 dc4 pm4 an4 cd4 ct4), sl4⟩) (c4 : PySem.W.codeIn K cd4 "first_gap" = true) (k4 : PySem.W.keepIn K (.ref f4) = true)
    (a5 : PySem.W.nsIn K mainGlobals "weighing" = some (some (.ref f5)))
    (l5 : K.lookup f5 = some ⟨oc5, od5, .func (PySem.W.fnOf "weighing" "weighing" (defArgs sWeighing) (defBody sWeighing) (defScope sWeighing) .none kV5 dc5 pm5 an5 cd5 ct5), sl5⟩) (c5 : PySem.W.codeIn K cd5 "weighing" = true) (k5 : PySem.W.keepIn K (.ref f5) = true)
    (a6 : PySem.W.nsIn K mainGlobals "without" = some (some (.ref f6)))
    (l6 : K.lookup f6 = some ⟨oc6, od6, .func (PySem.W.fnOf "without" "without" (defArgs sWithout) (defBody sWithout) (defScope sWithout) .none kV6 dc6 pm6 an6 cd6 ct6), sl6⟩) (c6 : PySem.W.codeIn K cd6 "without" = true) (k6 : PySem.W.keepIn K (.ref f6) = true)
    (a7 : PySem.W.findIn K (.ref xAll) "shows" = some (some (.ref f7))) (i7 : PySem.W.isFn K (.ref f7) = true)
    (l7 : K.lookup f7 = some ⟨oc7, od7, .func (PySem.W.fnOf "shows" "All.shows" (defArgs sAllShows) (defBody sAllShows) (defScope sAllShows) .none kV7 dc7 pm7 an7 cd7 ct7), sl7⟩) (c7 : PySem.W.codeIn K cd7 "All.shows" = true) (k7 : PySem.W.keepIn K (.ref f7) = true)
    (a8 : PySem.W.findIn K (.ref xGap) "__init__" = some (some (.ref f8))) (i8 : PySem.W.isFn K (.ref f8) = true)
    (l8 : K.lookup f8 = some ⟨oc8, od8, .func (PySem.W.fnOf "__init__" "Gap.__init__" (defArgs sGapInit) (defBody sGapInit) (defScope sGapInit) .none kV8 dc8 pm8 an8 cd8 ct8), sl8⟩) (c8 : PySem.W.codeIn K cd8 "Gap.__init__" = true) (k8 : PySem.W.keepIn K (.ref f8) = true)
    (a9 : PySem.W.findIn K (.ref xGap) "shows" = some (some (.ref f9))) (i9 : PySem.W.isFn K (.ref f9) = true)
    (l9 : K.lookup f9 = some ⟨oc9, od9, .func (PySem.W.fnOf "shows" "Gap.shows" (defArgs sGapShows) (defBody sGapShows) (defScope sGapShows) .none kV9 dc9 pm9 an9 cd9 ct9), sl9⟩) (c9 : PySem.W.codeIn K cd9 "Gap.shows" = true) (k9 : PySem.W.keepIn K (.ref f9) = true)
    (a10 : PySem.W.findIn K (.ref xBest) "__init__" = some (some (.ref f10))) (i10 : PySem.W.isFn K (.ref f10) = true)
    (l10 : K.lookup f10 = some ⟨oc10, od10, .func (PySem.W.fnOf "__init__" "Best.__init__" (defArgs sBestInit) (defBody sBestInit) (defScope sBestInit) .none kV10 dc10 pm10 an10 cd10 ct10), sl10⟩) (c10 : PySem.W.codeIn K cd10 "Best.__init__" = true) (k10 : PySem.W.keepIn K (.ref f10) = true)
    (a11 : PySem.W.findIn K (.ref xBest) "shows" = some (some (.ref f11))) (i11 : PySem.W.isFn K (.ref f11) = true)
    (l11 : K.lookup f11 = some ⟨oc11, od11, .func (PySem.W.fnOf "shows" "Best.shows" (defArgs sBestShows) (defBody sBestShows) (defScope sBestShows) .none kV11 dc11 pm11 an11 cd11 ct11), sl11⟩) (c11 : PySem.W.codeIn K cd11 "Best.shows" = true) (k11 : PySem.W.keepIn K (.ref f11) = true)
    (a12 : PySem.W.nsIn K mainGlobals "asked_most" = some (some (.ref f12)))
    (l12 : K.lookup f12 = some ⟨oc12, od12, .func (PySem.W.fnOf "asked_most" "asked_most" (defArgs sAskedMost) (defBody sAskedMost) (defScope sAskedMost) .none kV12 dc12 pm12 an12 cd12 ct12), sl12⟩) (c12 : PySem.W.codeIn K cd12 "asked_most" = true) (k12 : PySem.W.keepIn K (.ref f12) = true)
    (a13 : PySem.W.nsIn K mainGlobals "told" = some (some (.ref f13)))
    (l13 : K.lookup f13 = some ⟨oc13, od13, .func (PySem.W.fnOf "told" "told" (defArgs sTold) (defBody sTold) (defScope sTold) .none kV13 dc13 pm13 an13 cd13 ct13), sl13⟩) (c13 : PySem.W.codeIn K cd13 "told" = true) (k13 : PySem.W.keepIn K (.ref f13) = true)
    (a14 : PySem.W.nsIn K mainGlobals "fewest" = some (some (.ref f14)))
    (l14 : K.lookup f14 = some ⟨oc14, od14, .func (PySem.W.fnOf "fewest" "fewest" (defArgs sFewest) (defBody sFewest) (defScope sFewest) .none kV14 dc14 pm14 an14 cd14 ct14), sl14⟩) (c14 : PySem.W.codeIn K cd14 "fewest" = true) (k14 : PySem.W.keepIn K (.ref f14) = true)
    (a15 : PySem.W.nsIn K mainGlobals "_law_ask" = some (some (.ref f15)))
    (l15 : K.lookup f15 = some ⟨oc15, od15, .func (PySem.W.fnOf "_law_ask" "_law_ask" (defArgs sLawAsk) (defBody sLawAsk) (defScope sLawAsk) .none kV15 dc15 pm15 an15 cd15 ct15), sl15⟩) (c15 : PySem.W.codeIn K cd15 "_law_ask" = true) (k15 : PySem.W.keepIn K (.ref f15) = true)
    (a16 : PySem.W.nsIn K mainGlobals "_law_told" = some (some (.ref f16)))
    (l16 : K.lookup f16 = some ⟨oc16, od16, .func (PySem.W.fnOf "_law_told" "_law_told" (defArgs sLawTold) (defBody sLawTold) (defScope sLawTold) .none kV16 dc16 pm16 an16 cd16 ct16), sl16⟩) (c16 : PySem.W.codeIn K cd16 "_law_told" = true) (k16 : PySem.W.keepIn K (.ref f16) = true)
    (a17 : PySem.W.nsIn K mainGlobals "law" = some (some (.ref f17)))
    (l17 : K.lookup f17 = some ⟨oc17, od17, .func (PySem.W.fnOf "law" "law" (defArgs sLaw) (defBody sLaw) (defScope sLaw) .none kV17 dc17 pm17 an17 cd17 ct17), sl17⟩) (c17 : PySem.W.codeIn K cd17 "law" = true) (k17 : PySem.W.keepIn K (.ref f17) = true)
    (pgAll : PySem.W.plainGet K xAll Str.empty = true) (hdAll : PySem.W.hasDictIn K xAll = true) (poAll : PySem.W.plainOver K xAll = true) (saAll : PySem.W.findIn K (.ref xAll) "__setattr__" = some (some (.builtin "object.__setattr__"))) (mkAll : PySem.W.makesIn K xAll = true) (kcAll : PySem.W.keepIn K (.ref xAll) = true)
    (icAll : PySem.W.findIn K (.ref xAll) "__class__" = some (some (.builtin "object.__class__"))) (omAll : PySem.W.mroIn K xAll (.type "object") = some true)
    (ktAllAll : PySem.W.subIn K (.ref xAll) (.ref xAll) = some true)
    (ktAllGap : PySem.W.subIn K (.ref xAll) (.ref xGap) = some false)
    (ktAllBest : PySem.W.subIn K (.ref xAll) (.ref xBest) = some false)
    (ktAllAnswer : PySem.W.subIn K (.ref xAll) (.ref xAnswer) = some true)
    (inAll : PySem.W.findIn K (.ref xAll) "__init__" = some (some (.builtin "object.__init__")))
    (pgGap : PySem.W.plainGet K xGap Str.empty = true) (hdGap : PySem.W.hasDictIn K xGap = true) (poGap : PySem.W.plainOver K xGap = true) (saGap : PySem.W.findIn K (.ref xGap) "__setattr__" = some (some (.builtin "object.__setattr__"))) (mkGap : PySem.W.makesIn K xGap = true) (kcGap : PySem.W.keepIn K (.ref xGap) = true)
    (nGapnumber : PySem.W.findIn K (.ref xGap) "number" = some none)
    (icGap : PySem.W.findIn K (.ref xGap) "__class__" = some (some (.builtin "object.__class__"))) (omGap : PySem.W.mroIn K xGap (.type "object") = some true)
    (ktGapAll : PySem.W.subIn K (.ref xGap) (.ref xAll) = some false)
    (ktGapGap : PySem.W.subIn K (.ref xGap) (.ref xGap) = some true)
    (ktGapBest : PySem.W.subIn K (.ref xGap) (.ref xBest) = some false)
    (ktGapAnswer : PySem.W.subIn K (.ref xGap) (.ref xAnswer) = some true)
    (pgBest : PySem.W.plainGet K xBest Str.empty = true) (hdBest : PySem.W.hasDictIn K xBest = true) (poBest : PySem.W.plainOver K xBest = true) (saBest : PySem.W.findIn K (.ref xBest) "__setattr__" = some (some (.builtin "object.__setattr__"))) (mkBest : PySem.W.makesIn K xBest = true) (kcBest : PySem.W.keepIn K (.ref xBest) = true)
    (nBestadded : PySem.W.findIn K (.ref xBest) "added" = some none)
    (nBestmisses : PySem.W.findIn K (.ref xBest) "misses" = some none)
    (icBest : PySem.W.findIn K (.ref xBest) "__class__" = some (some (.builtin "object.__class__"))) (omBest : PySem.W.mroIn K xBest (.type "object") = some true)
    (ktBestAll : PySem.W.subIn K (.ref xBest) (.ref xAll) = some false)
    (ktBestGap : PySem.W.subIn K (.ref xBest) (.ref xGap) = some false)
    (ktBestBest : PySem.W.subIn K (.ref xBest) (.ref xBest) = some true)
    (ktBestAnswer : PySem.W.subIn K (.ref xBest) (.ref xAnswer) = some true)
    (qcAll : PySem.W.isClsIn K xAll = true) (qtAll : PySem.W.typeIn K (.ref xAll) = some (.type "type")) (qsAll : PySem.W.subIn K (.ref xAll) (.ref xAll) = some true)
    (qcGap : PySem.W.isClsIn K xGap = true) (qtGap : PySem.W.typeIn K (.ref xGap) = some (.type "type")) (qsGap : PySem.W.subIn K (.ref xGap) (.ref xGap) = some true)
    (qcBest : PySem.W.isClsIn K xBest = true) (qtBest : PySem.W.typeIn K (.ref xBest) = some (.type "type")) (qsBest : PySem.W.subIn K (.ref xBest) (.ref xBest) = some true)
    (qcAnswer : PySem.W.isClsIn K xAnswer = true) (qtAnswer : PySem.W.typeIn K (.ref xAnswer) = some (.type "type")) (qsAnswer : PySem.W.subIn K (.ref xAnswer) (.ref xAnswer) = some true)
    (xcBadSet : PySem.W.excIn K xBadSet [.type "ValueError", .type "Exception", .type "BaseException", .type "object"] "ValueError.__new__" = true) (kpBadSet : PySem.W.keepIn K (.ref xBadSet) = true) (beBadSet : PySem.W.subIn K (.ref xBadSet) (.type "BaseException") = some true) (tyBadSet : PySem.W.typeIn K (.ref xBadSet) = some (.type "type"))
    (gaBadSet : PySem.W.findIn K (.ref xBadSet) "__getattribute__" = some (some (.builtin "BaseException.__getattribute__"))) (gtBadSet : PySem.W.findIn K (.ref xBadSet) "__getattr__" = some none) (hxBadSet : PySem.W.hasDictIn K xBadSet = true) (ceBadSet : PySem.W.findIn K (.ref xBadSet) "__class__" = some (some (.builtin "object.__class__"))) (oeBadSet : PySem.W.mroIn K xBadSet (.type "object") = some true)
    (swBadSet : PySem.W.subIn K (.ref xBadSet) (.ref xWeightError) = some true) (svBadSet : PySem.W.subIn K (.ref xBadSet) (.type "ValueError") = some true) (isBadSet : PySem.W.isClsIn K xBadSet = true)
    (ssBadSetBadSet : PySem.W.subIn K (.ref xBadSet) (.ref xBadSet) = some true)
    (ssBadSetBadNumber : PySem.W.subIn K (.ref xBadSet) (.ref xBadNumber) = some false)
    (ssBadSetBadPlace : PySem.W.subIn K (.ref xBadSet) (.ref xBadPlace) = some false)
    (xcBadNumber : PySem.W.excIn K xBadNumber [.type "ValueError", .type "Exception", .type "BaseException", .type "object"] "ValueError.__new__" = true) (kpBadNumber : PySem.W.keepIn K (.ref xBadNumber) = true) (beBadNumber : PySem.W.subIn K (.ref xBadNumber) (.type "BaseException") = some true) (tyBadNumber : PySem.W.typeIn K (.ref xBadNumber) = some (.type "type"))
    (gaBadNumber : PySem.W.findIn K (.ref xBadNumber) "__getattribute__" = some (some (.builtin "BaseException.__getattribute__"))) (gtBadNumber : PySem.W.findIn K (.ref xBadNumber) "__getattr__" = some none) (hxBadNumber : PySem.W.hasDictIn K xBadNumber = true) (ceBadNumber : PySem.W.findIn K (.ref xBadNumber) "__class__" = some (some (.builtin "object.__class__"))) (oeBadNumber : PySem.W.mroIn K xBadNumber (.type "object") = some true)
    (swBadNumber : PySem.W.subIn K (.ref xBadNumber) (.ref xWeightError) = some true) (svBadNumber : PySem.W.subIn K (.ref xBadNumber) (.type "ValueError") = some true) (isBadNumber : PySem.W.isClsIn K xBadNumber = true)
    (ssBadNumberBadSet : PySem.W.subIn K (.ref xBadNumber) (.ref xBadSet) = some false)
    (ssBadNumberBadNumber : PySem.W.subIn K (.ref xBadNumber) (.ref xBadNumber) = some true)
    (ssBadNumberBadPlace : PySem.W.subIn K (.ref xBadNumber) (.ref xBadPlace) = some false)
    (xcBadPlace : PySem.W.excIn K xBadPlace [.type "ValueError", .type "Exception", .type "BaseException", .type "object"] "ValueError.__new__" = true) (kpBadPlace : PySem.W.keepIn K (.ref xBadPlace) = true) (beBadPlace : PySem.W.subIn K (.ref xBadPlace) (.type "BaseException") = some true) (tyBadPlace : PySem.W.typeIn K (.ref xBadPlace) = some (.type "type"))
    (gaBadPlace : PySem.W.findIn K (.ref xBadPlace) "__getattribute__" = some (some (.builtin "BaseException.__getattribute__"))) (gtBadPlace : PySem.W.findIn K (.ref xBadPlace) "__getattr__" = some none) (hxBadPlace : PySem.W.hasDictIn K xBadPlace = true) (ceBadPlace : PySem.W.findIn K (.ref xBadPlace) "__class__" = some (some (.builtin "object.__class__"))) (oeBadPlace : PySem.W.mroIn K xBadPlace (.type "object") = some true)
    (swBadPlace : PySem.W.subIn K (.ref xBadPlace) (.ref xWeightError) = some true) (svBadPlace : PySem.W.subIn K (.ref xBadPlace) (.type "ValueError") = some true) (isBadPlace : PySem.W.isClsIn K xBadPlace = true)
    (ssBadPlaceBadSet : PySem.W.subIn K (.ref xBadPlace) (.ref xBadSet) = some false)
    (ssBadPlaceBadNumber : PySem.W.subIn K (.ref xBadPlace) (.ref xBadNumber) = some false)
    (ssBadPlaceBadPlace : PySem.W.subIn K (.ref xBadPlace) (.ref xBadPlace) = some true)
    (beW : PySem.W.subIn K (.ref xWeightError) (.type "BaseException") = some true) (hxW : PySem.W.hasDictIn K xWeightError = true) (tyW : PySem.W.typeIn K (.ref xWeightError) = some (.type "type"))
    (dsp : PySem.W.specialIn K (.builtin "object.__class__") "__get__" = some (some (.builtin "getset_descriptor.__get__"))) (tks : PySem.W.takesIn K (.builtin "object.__class__") = some true)
    (zValueError : PySem.W.nsIn K mainGlobals "ValueError" = some none)
    (zall : PySem.W.nsIn K mainGlobals "all" = some none)
    (zbool : PySem.W.nsIn K mainGlobals "bool" = some none)
    (zenumerate : PySem.W.nsIn K mainGlobals "enumerate" = some none)
    (zint : PySem.W.nsIn K mainGlobals "int" = some none)
    (zisinstance : PySem.W.nsIn K mainGlobals "isinstance" = some none)
    (zlen : PySem.W.nsIn K mainGlobals "len" = some none)
    (zlist : PySem.W.nsIn K mainGlobals "list" = some none)
    (zrange : PySem.W.nsIn K mainGlobals "range" = some none)
    (zsorted : PySem.W.nsIn K mainGlobals "sorted" = some none)
    : ∃ fd : FuncData, (∀ (s : Shared) (v : Value), BindsTo s fd ⟨[v], []⟩ [("_law_script", v)]) ∧ ∀ base : Heap, K.In base → base.Ns mainGlobals mg → FnOk l.prog w K mg base CX0 6 fa fd ["_law_script"] (sp_law K) := by
  have e := hfa.symm.trans (PySem.W.mg_of X G a17)
  cases e
  have T : Tx K mg (⟨xWeightError, xBadSet, xBadNumber, xBadPlace, xAnswer, xAll, xGap, xBest⟩ : Ca) := {
    z_ValueError := PySem.W.mg_none_of X G zValueError,
    z_all := PySem.W.mg_none_of X G zall,
    z_bool := PySem.W.mg_none_of X G zbool,
    z_enumerate := PySem.W.mg_none_of X G zenumerate,
    z_int := PySem.W.mg_none_of X G zint,
    z_isinstance := PySem.W.mg_none_of X G zisinstance,
    z_len := PySem.W.mg_none_of X G zlen,
    z_list := PySem.W.mg_none_of X G zlist,
    z_range := PySem.W.mg_none_of X G zrange,
    z_sorted := PySem.W.mg_none_of X G zsorted,
    g_All := PySem.W.mg_of X G gAll,
    g_Gap := PySem.W.mg_of X G gGap,
    g_Best := PySem.W.mg_of X G gBest,
    g_Answer := PySem.W.mg_of X G gAnswer,
    g_WeightError := PySem.W.mg_of X G gWeightError,
    g_BadSet := PySem.W.mg_of X G gBadSet,
    g_BadNumber := PySem.W.mg_of X G gBadNumber,
    g_BadPlace := PySem.W.mg_of X G gBadPlace,
    c_All := ⟨pgAll, hdAll, poAll, saAll⟩,
    i_All := icAll,
    o_All := omAll,
    k_All_All := kit_of qcAll qtAll ktAllAll qsAll,
    k_All_Gap := kit_of qcGap qtGap ktAllGap qsGap,
    k_All_Best := kit_of qcBest qtBest ktAllBest qsBest,
    k_All_Answer := kit_of qcAnswer qtAnswer ktAllAnswer qsAnswer,
    c_Gap := ⟨pgGap, hdGap, poGap, saGap⟩,
    n_Gap_number := nGapnumber,
    i_Gap := icGap,
    o_Gap := omGap,
    k_Gap_All := kit_of qcAll qtAll ktGapAll qsAll,
    k_Gap_Gap := kit_of qcGap qtGap ktGapGap qsGap,
    k_Gap_Best := kit_of qcBest qtBest ktGapBest qsBest,
    k_Gap_Answer := kit_of qcAnswer qtAnswer ktGapAnswer qsAnswer,
    c_Best := ⟨pgBest, hdBest, poBest, saBest⟩,
    n_Best_added := nBestadded,
    n_Best_misses := nBestmisses,
    i_Best := icBest,
    o_Best := omBest,
    k_Best_All := kit_of qcAll qtAll ktBestAll qsAll,
    k_Best_Gap := kit_of qcGap qtGap ktBestGap qsGap,
    k_Best_Best := kit_of qcBest qtBest ktBestBest qsBest,
    k_Best_Answer := kit_of qcAnswer qtAnswer ktBestAnswer qsAnswer,
    xc_BadSet := xcBadSet,
    kp_BadSet := kpBadSet,
    be_BadSet := beBadSet,
    ty_BadSet := tyBadSet,
    ex_BadSet := ⟨gaBadSet, gtBadSet, beBadSet, hxBadSet, ceBadSet, dsp, tks, oeBadSet⟩,
    em_BadSet := PySem.W.exm_ref beW hxW tyW swBadSet,
    kv_BadSet := kit_VE svBadSet,
    kk_BadSet_BadSet := kit_of isBadSet tyBadSet ssBadSetBadSet ssBadSetBadSet,
    kk_BadSet_BadNumber := kit_of isBadNumber tyBadNumber ssBadSetBadNumber ssBadNumberBadNumber,
    kk_BadSet_BadPlace := kit_of isBadPlace tyBadPlace ssBadSetBadPlace ssBadPlaceBadPlace,
    xc_BadNumber := xcBadNumber,
    kp_BadNumber := kpBadNumber,
    be_BadNumber := beBadNumber,
    ty_BadNumber := tyBadNumber,
    ex_BadNumber := ⟨gaBadNumber, gtBadNumber, beBadNumber, hxBadNumber, ceBadNumber, dsp, tks, oeBadNumber⟩,
    em_BadNumber := PySem.W.exm_ref beW hxW tyW swBadNumber,
    kv_BadNumber := kit_VE svBadNumber,
    kk_BadNumber_BadSet := kit_of isBadSet tyBadSet ssBadNumberBadSet ssBadSetBadSet,
    kk_BadNumber_BadNumber := kit_of isBadNumber tyBadNumber ssBadNumberBadNumber ssBadNumberBadNumber,
    kk_BadNumber_BadPlace := kit_of isBadPlace tyBadPlace ssBadNumberBadPlace ssBadPlaceBadPlace,
    xc_BadPlace := xcBadPlace,
    kp_BadPlace := kpBadPlace,
    be_BadPlace := beBadPlace,
    ty_BadPlace := tyBadPlace,
    ex_BadPlace := ⟨gaBadPlace, gtBadPlace, beBadPlace, hxBadPlace, ceBadPlace, dsp, tks, oeBadPlace⟩,
    em_BadPlace := PySem.W.exm_ref beW hxW tyW swBadPlace,
    kv_BadPlace := kit_VE svBadPlace,
    kk_BadPlace_BadSet := kit_of isBadSet tyBadSet ssBadPlaceBadSet ssBadSetBadSet,
    kk_BadPlace_BadNumber := kit_of isBadNumber tyBadNumber ssBadPlaceBadNumber ssBadNumberBadNumber,
    kk_BadPlace_BadPlace := kit_of isBadPlace tyBadPlace ssBadPlaceBadPlace ssBadPlaceBadPlace,
    dsp := dsp,
    tks := tks }
  have F0 := fun_mk (st := sWall) l0 c0 k0
  have b0 := F0.binds (ps := ["k"]) fun _ _ _ _ _ _ us hl => match us, hl with | [_], _ => rfl
  have A0 : At K mg "_wall" sWall ["k"] f0 _ := ⟨PySem.W.mg_of X G a0, F0, b0⟩
  have F1 := fun_mk (st := sIsNumber) l1 c1 k1
  have b1 := F1.binds (ps := ["thing", "least"]) fun _ _ _ _ _ _ us hl => match us, hl with | [_, _], _ => rfl
  have A1 : At K mg "is_number" sIsNumber ["thing", "least"] f1 _ := ⟨PySem.W.mg_of X G a1, F1, b1⟩
  have F2 := fun_mk (st := sAskedSet) l2 c2 k2
  have b2 := F2.binds (ps := ["weights"]) fun _ _ _ _ _ _ us hl => match us, hl with | [_], _ => rfl
  have A2 : At K mg "asked_set" sAskedSet ["weights"] f2 _ := ⟨PySem.W.mg_of X G a2, F2, b2⟩
  have F3 := fun_mk (st := sFirstMissing) l3 c3 k3
  have b3 := F3.binds (ps := ["weights"]) fun _ _ _ _ _ _ us hl => match us, hl with | [_], _ => rfl
  have A3 : At K mg "first_missing" sFirstMissing ["weights"] f3 _ := ⟨PySem.W.mg_of X G a3, F3, b3⟩
  have F4 := fun_mk (st := sFirstGap) l4 c4 k4
  have b4 := F4.binds (ps := ["weights"]) fun _ _ _ _ _ _ us hl => match us, hl with | [_], _ => rfl
  have A4 : At K mg "first_gap" sFirstGap ["weights"] f4 _ := ⟨PySem.W.mg_of X G a4, F4, b4⟩
  have F5 := fun_mk (st := sWeighing) l5 c5 k5
  have b5 := F5.binds (ps := ["weights", "number"]) fun _ _ _ _ _ _ us hl => match us, hl with | [_, _], _ => rfl
  have A5 : At K mg "weighing" sWeighing ["weights", "number"] f5 _ := ⟨PySem.W.mg_of X G a5, F5, b5⟩
  have F6 := fun_mk (st := sWithout) l6 c6 k6
  have b6 := F6.binds (ps := ["weights", "place"]) fun _ _ _ _ _ _ us hl => match us, hl with | [_, _], _ => rfl
  have A6 : At K mg "without" sWithout ["weights", "place"] f6 _ := ⟨PySem.W.mg_of X G a6, F6, b6⟩
  have F7 := fun_mk (st := sAllShows) l7 c7 k7
  have b7 := F7.binds (ps := ["self", "weights", "most"]) fun _ _ _ _ _ _ us hl => match us, hl with | [_, _, _], _ => rfl
  have A7 : AtM K xAll "shows" "All.shows" sAllShows ["self", "weights", "most"] f7 _ := ⟨⟨a7, i7, k7⟩, F7, b7⟩
  have F8 := fun_mk (st := sGapInit) l8 c8 k8
  have b8 := F8.binds (ps := ["self", "number"]) fun _ _ _ _ _ _ us hl => match us, hl with | [_, _], _ => rfl
  have A8 : AtI K mg xGap "Gap" "Gap.__init__" sGapInit ["self", "number"] f8 _ := ⟨PySem.W.mg_of X G gGap, ⟨mkGap, a8, i8, kcGap⟩, F8, b8⟩
  have F9 := fun_mk (st := sGapShows) l9 c9 k9
  have b9 := F9.binds (ps := ["self", "weights", "most"]) fun _ _ _ _ _ _ us hl => match us, hl with | [_, _, _], _ => rfl
  have A9 : AtM K xGap "shows" "Gap.shows" sGapShows ["self", "weights", "most"] f9 _ := ⟨⟨a9, i9, k9⟩, F9, b9⟩
  have F10 := fun_mk (st := sBestInit) l10 c10 k10
  have b10 := F10.binds (ps := ["self", "added", "misses"]) fun _ _ _ _ _ _ us hl => match us, hl with | [_, _, _], _ => rfl
  have A10 : AtI K mg xBest "Best" "Best.__init__" sBestInit ["self", "added", "misses"] f10 _ := ⟨PySem.W.mg_of X G gBest, ⟨mkBest, a10, i10, kcBest⟩, F10, b10⟩
  have F11 := fun_mk (st := sBestShows) l11 c11 k11
  have b11 := F11.binds (ps := ["self", "weights", "most"]) fun _ _ _ _ _ _ us hl => match us, hl with | [_, _, _], _ => rfl
  have A11 : AtM K xBest "shows" "Best.shows" sBestShows ["self", "weights", "most"] f11 _ := ⟨⟨a11, i11, k11⟩, F11, b11⟩
  have F12 := fun_mk (st := sAskedMost) l12 c12 k12
  have b12 := F12.binds (ps := ["most"]) fun _ _ _ _ _ _ us hl => match us, hl with | [_], _ => rfl
  have A12 : At K mg "asked_most" sAskedMost ["most"] f12 _ := ⟨PySem.W.mg_of X G a12, F12, b12⟩
  have F13 := fun_mk (st := sTold) l13 c13 k13
  have b13 := F13.binds (ps := ["weights", "most"]) fun _ _ _ _ _ _ us hl => match us, hl with | [_, _], _ => rfl
  have A13 : At K mg "told" sTold ["weights", "most"] f13 _ := ⟨PySem.W.mg_of X G a13, F13, b13⟩
  have F14 := fun_mk (st := sFewest) l14 c14 k14
  have b14 := F14.binds (ps := ["weights", "most"]) fun _ _ _ _ _ _ us hl => match us, hl with | [_, _], _ => rfl
  have A14 : At K mg "fewest" sFewest ["weights", "most"] f14 _ := ⟨PySem.W.mg_of X G a14, F14, b14⟩
  have F15 := fun_mk (st := sLawAsk) l15 c15 k15
  have b15 := F15.binds (ps := ["_law_door", "_law_weights", "_law_other"]) fun _ _ _ _ _ _ us hl => match us, hl with | [_, _, _], _ => rfl
  have A15 : At K mg "_law_ask" sLawAsk ["_law_door", "_law_weights", "_law_other"] f15 _ := ⟨PySem.W.mg_of X G a15, F15, b15⟩
  have F16 := fun_mk (st := sLawTold) l16 c16 k16
  have b16 := F16.binds (ps := ["_law_kind", "_law_which", "_law_more"]) fun _ _ _ _ _ _ us hl => match us, hl with | [_, _, _], _ => rfl
  have A16 : At K mg "_law_told" sLawTold ["_law_kind", "_law_which", "_law_more"] f16 _ := ⟨PySem.W.mg_of X G a16, F16, b16⟩
  have F17 := fun_mk (st := sLaw) l17 c17 k17
  have b17 := F17.binds (ps := ["_law_script"]) fun _ _ _ _ _ _ us hl => match us, hl with | [_], _ => rfl
  have A17 : At K mg "law" sLaw ["_law_script"] fa _ := ⟨PySem.W.mg_of X G a17, F17, b17⟩
  refine ⟨PySem.W.fnOf "law" "law" (defArgs sLaw) (defBody sLaw) (defScope sLaw) .none kV17 dc17 pm17 an17 cd17 ct17, fun s v => .of_eq rfl, fun base _ _ => ?_⟩
  have G_is_number := ok_is_number (P := l.prog) (w := w) (base := base) (c := (⟨xWeightError, xBadSet, xBadNumber, xBadPlace, xAnswer, xAll, xGap, xBest⟩ : Ca)) A1 T  
  have G_asked_set := ok_asked_set (P := l.prog) (w := w) (base := base) (c := (⟨xWeightError, xBadSet, xBadNumber, xBadPlace, xAnswer, xAll, xGap, xBest⟩ : Ca)) A2 T G_is_number 
  have G_first_missing := ok_first_missing (P := l.prog) (w := w) (base := base) (c := (⟨xWeightError, xBadSet, xBadNumber, xBadPlace, xAnswer, xAll, xGap, xBest⟩ : Ca)) A3 T  
  have G_first_gap := ok_first_gap (P := l.prog) (w := w) (base := base) (c := (⟨xWeightError, xBadSet, xBadNumber, xBadPlace, xAnswer, xAll, xGap, xBest⟩ : Ca)) A4 T G_asked_set G_first_missing 
  have G_weighing := ok_weighing (P := l.prog) (w := w) (base := base) (c := (⟨xWeightError, xBadSet, xBadNumber, xBadPlace, xAnswer, xAll, xGap, xBest⟩ : Ca)) A5 T G_is_number G_asked_set G_first_missing 
  have G_Best_init := ok_Best_init (P := l.prog) (w := w) (base := base) (c := (⟨xWeightError, xBadSet, xBadNumber, xBadPlace, xAnswer, xAll, xGap, xBest⟩ : Ca)) A10 T  
  have G_asked_most := ok_asked_most (P := l.prog) (w := w) (base := base) (c := (⟨xWeightError, xBadSet, xBadNumber, xBadPlace, xAnswer, xAll, xGap, xBest⟩ : Ca)) A12 T G_is_number 
  have G_fewest := ok_fewest (P := l.prog) (w := w) (base := base) (c := (⟨xWeightError, xBadSet, xBadNumber, xBadPlace, xAnswer, xAll, xGap, xBest⟩ : Ca)) A14 T G_asked_set G_Best_init G_asked_most 
  have G_without := ok_without (P := l.prog) (w := w) (base := base) (c := (⟨xWeightError, xBadSet, xBadNumber, xBadPlace, xAnswer, xAll, xGap, xBest⟩ : Ca)) A6 T G_is_number G_asked_set G_first_missing 
  have G_told := ok_told (P := l.prog) (w := w) (base := base) (c := (⟨xWeightError, xBadSet, xBadNumber, xBadPlace, xAnswer, xAll, xGap, xBest⟩ : Ca)) A13 T G_asked_set G_asked_most 
  have G_law_ask := ok_law_ask (P := l.prog) (w := w) (base := base) (c := (⟨xWeightError, xBadSet, xBadNumber, xBadPlace, xAnswer, xAll, xGap, xBest⟩ : Ca)) A15 T G_first_gap G_weighing G_without G_told G_fewest 
  have G_law_told := ok_law_told (P := l.prog) (w := w) (base := base) (c := (⟨xWeightError, xBadSet, xBadNumber, xBadPlace, xAnswer, xAll, xGap, xBest⟩ : Ca)) A16 T G_weighing G_without G_law_ask 
  have G_law := ok_law (P := l.prog) (w := w) (base := base) (c := (⟨xWeightError, xBadSet, xBadNumber, xBadPlace, xAnswer, xAll, xGap, xBest⟩ : Ca)) A17 T G_first_gap G_weighing G_fewest G_law_told 
  exact G_law.ok
end
end Wt
open PySem PySem.W PyProof.Rows
set_option maxRecDepth 100000 in
set_option maxHeartbeats 0 in
theorem PySem.Challenge.cw_weightset_k06_refused_holds : PySem.Challenge.rw_weightset_k06_refused.Holds := by
  w_on; o_law; k_head; (case hw => w_witness2)
  k_fill
  refine L2.walk_ofB (l := PySem.Challenge.rw_weightset_k06_refused) (n := 63) (k := 6) (x := "_law_script") (CX := fun w => L2.CX0) (sp := fun w => Wt.sp_law _) rfl (by decide) rfl ⟨rfl, by decide, by decide⟩ (fun w h Y => PySem.W.kIn_of Y) ?F (fun _ _ a ns hl hb _ hS => Wt.law_ask a ns hl hb hS) (fun _ _ _ _ _ h => h)
  case F =>
    intro w mg fa h KX G hmg
    refine' Wt.all_mk KX G hmg ?gAll ?gGap ?gBest ?gAnswer ?gWeightError ?gBadSet ?gBadNumber ?gBadPlace ?a0 ?l0 ?c0 ?k0 ?a1 ?l1 ?c1 ?k1 ?a2 ?l2 ?c2 ?k2 ?a3 ?l3 ?c3 ?k3 ?a4 ?l4 ?c4 ?k4 ?a5 ?l5 ?c5 ?k5 ?a6 ?l6 ?c6 ?k6 ?a7 ?i7 ?l7 ?c7 ?k7 ?a8 ?i8 ?l8 ?c8 ?k8 ?a9 ?i9 ?l9 ?c9 ?k9 ?a10 ?i10 ?l10 ?c10 ?k10 ?a11 ?i11 ?l11 ?c11 ?k11 ?a12 ?l12 ?c12 ?k12 ?a13 ?l13 ?c13 ?k13 ?a14 ?l14 ?c14 ?k14 ?a15 ?l15 ?c15 ?k15 ?a16 ?l16 ?c16 ?k16 ?a17 ?l17 ?c17 ?k17 ?pgAll ?hdAll ?poAll ?saAll ?mkAll ?kcAll ?icAll ?omAll ?ktAllAll ?ktAllGap ?ktAllBest ?ktAllAnswer ?inAll ?pgGap ?hdGap ?poGap ?saGap ?mkGap ?kcGap ?nGapnumber ?icGap ?omGap ?ktGapAll ?ktGapGap ?ktGapBest ?ktGapAnswer ?pgBest ?hdBest ?poBest ?saBest ?mkBest ?kcBest ?nBestadded ?nBestmisses ?icBest ?omBest ?ktBestAll ?ktBestGap ?ktBestBest ?ktBestAnswer ?qcAll ?qtAll ?qsAll ?qcGap ?qtGap ?qsGap ?qcBest ?qtBest ?qsBest ?qcAnswer ?qtAnswer ?qsAnswer ?xcBadSet ?kpBadSet ?beBadSet ?tyBadSet ?gaBadSet ?gtBadSet ?hxBadSet ?ceBadSet ?oeBadSet ?swBadSet ?svBadSet ?isBadSet ?ssBadSetBadSet ?ssBadSetBadNumber ?ssBadSetBadPlace ?xcBadNumber ?kpBadNumber ?beBadNumber ?tyBadNumber ?gaBadNumber ?gtBadNumber ?hxBadNumber ?ceBadNumber ?oeBadNumber ?swBadNumber ?svBadNumber ?isBadNumber ?ssBadNumberBadSet ?ssBadNumberBadNumber ?ssBadNumberBadPlace ?xcBadPlace ?kpBadPlace ?beBadPlace ?tyBadPlace ?gaBadPlace ?gtBadPlace ?hxBadPlace ?ceBadPlace ?oeBadPlace ?swBadPlace ?svBadPlace ?isBadPlace ?ssBadPlaceBadSet ?ssBadPlaceBadNumber ?ssBadPlaceBadPlace ?beW ?hxW ?tyW ?dsp ?tks ?zValueError ?zall ?zbool ?zenumerate ?zint ?zisinstance ?zlen ?zlist ?zrange ?zsorted
    (case gAll => k_is)
    (case gGap => k_is)
    (case gBest => k_is)
    (case gAnswer => k_is)
    (case gWeightError => k_is)
    (case gBadSet => k_is)
    (case gBadNumber => k_is)
    (case gBadPlace => k_is)
    (case a0 => k_is)
    (case l0 => k_is)
    (case c0 => k_is)
    (case k0 => k_is)
    (case a1 => k_is)
    (case l1 => k_is)
    (case c1 => k_is)
    (case k1 => k_is)
    (case a2 => k_is)
    (case l2 => k_is)
    (case c2 => k_is)
    (case k2 => k_is)
    (case a3 => k_is)
    (case l3 => k_is)
    (case c3 => k_is)
    (case k3 => k_is)
    (case a4 => k_is)
    (case l4 => k_is)
    (case c4 => k_is)
    (case k4 => k_is)
    (case a5 => k_is)
    (case l5 => k_is)
    (case c5 => k_is)
    (case k5 => k_is)
    (case a6 => k_is)
    (case l6 => k_is)
    (case c6 => k_is)
    (case k6 => k_is)
    (case a7 => k_is)
    (case i7 => k_is)
    (case l7 => k_is)
    (case c7 => k_is)
    (case k7 => k_is)
    (case a8 => k_is)
    (case i8 => k_is)
    (case l8 => k_is)
    (case c8 => k_is)
    (case k8 => k_is)
    (case a9 => k_is)
    (case i9 => k_is)
    (case l9 => k_is)
    (case c9 => k_is)
    (case k9 => k_is)
    (case a10 => k_is)
    (case i10 => k_is)
    (case l10 => k_is)
    (case c10 => k_is)
    (case k10 => k_is)
    (case a11 => k_is)
    (case i11 => k_is)
    (case l11 => k_is)
    (case c11 => k_is)
    (case k11 => k_is)
    (case a12 => k_is)
    (case l12 => k_is)
    (case c12 => k_is)
    (case k12 => k_is)
    (case a13 => k_is)
    (case l13 => k_is)
    (case c13 => k_is)
    (case k13 => k_is)
    (case a14 => k_is)
    (case l14 => k_is)
    (case c14 => k_is)
    (case k14 => k_is)
    (case a15 => k_is)
    (case l15 => k_is)
    (case c15 => k_is)
    (case k15 => k_is)
    (case a16 => k_is)
    (case l16 => k_is)
    (case c16 => k_is)
    (case k16 => k_is)
    (case a17 => k_is)
    (case l17 => k_is)
    (case c17 => k_is)
    (case k17 => k_is)
    (case pgAll => k_is)
    (case hdAll => k_is)
    (case poAll => k_is)
    (case saAll => k_is)
    (case mkAll => k_is)
    (case kcAll => k_is)
    (case icAll => k_is)
    (case omAll => k_is)
    (case ktAllAll => first | k_is | rfl)
    (case ktAllGap => first | k_is | rfl)
    (case ktAllBest => first | k_is | rfl)
    (case ktAllAnswer => first | k_is | rfl)
    (case inAll => k_is)
    (case pgGap => k_is)
    (case hdGap => k_is)
    (case poGap => k_is)
    (case saGap => k_is)
    (case mkGap => k_is)
    (case kcGap => k_is)
    (case nGapnumber => k_is)
    (case icGap => k_is)
    (case omGap => k_is)
    (case ktGapAll => first | k_is | rfl)
    (case ktGapGap => first | k_is | rfl)
    (case ktGapBest => first | k_is | rfl)
    (case ktGapAnswer => first | k_is | rfl)
    (case pgBest => k_is)
    (case hdBest => k_is)
    (case poBest => k_is)
    (case saBest => k_is)
    (case mkBest => k_is)
    (case kcBest => k_is)
    (case nBestadded => k_is)
    (case nBestmisses => k_is)
    (case icBest => k_is)
    (case omBest => k_is)
    (case ktBestAll => first | k_is | rfl)
    (case ktBestGap => first | k_is | rfl)
    (case ktBestBest => first | k_is | rfl)
    (case ktBestAnswer => first | k_is | rfl)
    (case qcAll => k_is)
    (case qtAll => k_is)
    (case qsAll => first | k_is | rfl)
    (case qcGap => k_is)
    (case qtGap => k_is)
    (case qsGap => first | k_is | rfl)
    (case qcBest => k_is)
    (case qtBest => k_is)
    (case qsBest => first | k_is | rfl)
    (case qcAnswer => k_is)
    (case qtAnswer => k_is)
    (case qsAnswer => first | k_is | rfl)
    (case xcBadSet => k_exc)
    (case kpBadSet => k_is)
    (case beBadSet => k_is)
    (case tyBadSet => k_is)
    (case gaBadSet => k_is)
    (case gtBadSet => k_is)
    (case hxBadSet => k_is)
    (case ceBadSet => k_is)
    (case oeBadSet => k_is)
    (case swBadSet => k_is)
    (case svBadSet => k_is)
    (case isBadSet => k_is)
    (case ssBadSetBadSet => first | k_is | rfl)
    (case ssBadSetBadNumber => first | k_is | rfl)
    (case ssBadSetBadPlace => first | k_is | rfl)
    (case xcBadNumber => k_exc)
    (case kpBadNumber => k_is)
    (case beBadNumber => k_is)
    (case tyBadNumber => k_is)
    (case gaBadNumber => k_is)
    (case gtBadNumber => k_is)
    (case hxBadNumber => k_is)
    (case ceBadNumber => k_is)
    (case oeBadNumber => k_is)
    (case swBadNumber => k_is)
    (case svBadNumber => k_is)
    (case isBadNumber => k_is)
    (case ssBadNumberBadSet => first | k_is | rfl)
    (case ssBadNumberBadNumber => first | k_is | rfl)
    (case ssBadNumberBadPlace => first | k_is | rfl)
    (case xcBadPlace => k_exc)
    (case kpBadPlace => k_is)
    (case beBadPlace => k_is)
    (case tyBadPlace => k_is)
    (case gaBadPlace => k_is)
    (case gtBadPlace => k_is)
    (case hxBadPlace => k_is)
    (case ceBadPlace => k_is)
    (case oeBadPlace => k_is)
    (case swBadPlace => k_is)
    (case svBadPlace => k_is)
    (case isBadPlace => k_is)
    (case ssBadPlaceBadSet => first | k_is | rfl)
    (case ssBadPlaceBadNumber => first | k_is | rfl)
    (case ssBadPlaceBadPlace => first | k_is | rfl)
    (case beW => k_is)
    (case hxW => k_is)
    (case tyW => k_is)
    (case dsp => k_is)
    (case tks => k_is)
    (case zValueError => k_is)
    (case zall => k_is)
    (case zbool => k_is)
    (case zenumerate => k_is)
    (case zint => k_is)
    (case zisinstance => k_is)
    (case zlen => k_is)
    (case zlist => k_is)
    (case zrange => k_is)
    (case zsorted => k_is)
