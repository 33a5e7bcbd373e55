import PyProof.Rows.All
import Wide.All
import OpenK.AllK
import Wide.FinOn
import KE.KStateDown
import HandS.ForMost
import HandS.Exc
import HandS.Defaults
import HandS.HeadHook1
import HandS.HeadHook2
import HandS.Head0
import HandS.Head1
import HandS.Head2
import HandS.HeadEnd
import KE.KSortKey
import KE.SortKeyHeap
import KE.KRevSl
import PyProof.ReprRoads
import HandS.IsInst
import HandS.Conv
import HandS.Style
import HandS.TupAny
import HandS.Star
import HandS.SortKw
import HandS.Walk
import KE.GoesMore
import KE.GoesEnum
import KE.GoesZip
import HandS.Zip
import HandS.SortInts
import HandS.Codes
import PySem.Challenge.RW_onescale_k94_whole_runs_of_nests_and_the
set_option Elab.async false
set_option linter.all false
set_option maxRecDepth 100000
set_option maxHeartbeats 0
/-! K94Math: trees, lots, told trees, nests, scales, contrary trees, trades. Plain Lean. -/
namespace K94

inductive Tree where
  | btn (n : Int)
  | trip (k : Int) (ps : List Tree)

theorem tree_ind {P : Tree → Prop} {PL : List Tree → Prop} (h1 : ∀ n, P (.btn n)) (h2 : ∀ k ps, PL ps → P (.trip k ps)) (h3 : PL []) (h4 : ∀ p r, P p → PL r → PL (p :: r)) :
    (∀ t, P t) ∧ ∀ ps, PL ps :=
  ⟨fun t => Tree.rec (motive_1 := P) (motive_2 := PL) h1 h2 h3 h4 t, fun ps => Tree.rec_1 (motive_1 := P) (motive_2 := PL) h1 h2 h3 h4 ps⟩

abbrev Lot := Int → Bool

mutual
def goes (L : Lot) : Tree → Bool
  | .btn n => L n
  | .trip k ps => decide (k ≤ cnt L ps)
def cnt (L : Lot) : List Tree → Int
  | [] => 0
  | p :: r => (if goes L p then 1 else 0) + cnt L r
end
mutual
def btns : Tree → List Int
  | .btn n => [n]
  | .trip _ ps => btnsL ps
def btnsL : List Tree → List Int
  | [] => []
  | p :: r => btns p ++ btnsL r
end
mutual
def dep : Tree → Nat
  | .btn _ => 0
  | .trip _ ps => depL ps + 1
def depL : List Tree → Nat
  | [] => 0
  | p :: r => max (dep p) (depL r)
end
mutual
def Ok : Tree → Prop
  | .btn _ => True
  | .trip k ps => 1 ≤ k ∧ k ≤ (ps.length : Int) ∧ OkL ps
def OkL : List Tree → Prop
  | [] => True
  | p :: r => Ok p ∧ OkL r
end
def isTrip : Tree → Bool
  | .btn _ => false
  | .trip _ _ => true
/-- how many parts are trips -/
def ntr : List Tree → Nat
  | [] => 0
  | p :: r => (if isTrip p then 1 else 0) + ntr r
mutual
def Nest : Tree → Prop
  | .btn _ => True
  | .trip _ ps => ntr ps ≤ 1 ∧ NestL ps
def NestL : List Tree → Prop
  | [] => True
  | p :: r => Nest p ∧ NestL r
end
/-- a trip of the bound 1 -/
def One : Tree → Prop
  | .btn _ => False
  | .trip k _ => k = 1
/-- a trip whose bound is how many parts it has -/
def All : Tree → Prop
  | .btn _ => False
  | .trip k ps => k = (ps.length : Int)
mutual
def Red : Tree → Prop
  | .btn _ => True
  | .trip k ps => 2 ≤ ps.length ∧ (k = 1 → ∀ p ∈ ps, ¬ One p) ∧ (k = (ps.length : Int) → ∀ p ∈ ps, ¬ All p) ∧ RedL ps
def RedL : List Tree → Prop
  | [] => True
  | p :: r => Red p ∧ RedL r
end

/-! ### lists of trees -/
theorem okL_iff : ∀ {ps : List Tree}, OkL ps ↔ ∀ p ∈ ps, Ok p
  | [] => by simp [OkL]
  | p :: r => by simp [OkL, okL_iff (ps := r)]
theorem nestL_iff : ∀ {ps : List Tree}, NestL ps ↔ ∀ p ∈ ps, Nest p
  | [] => by simp [NestL]
  | p :: r => by simp [NestL, nestL_iff (ps := r)]
theorem redL_iff : ∀ {ps : List Tree}, RedL ps ↔ ∀ p ∈ ps, Red p
  | [] => by simp [RedL]
  | p :: r => by simp [RedL, redL_iff (ps := r)]
theorem depL_le : ∀ {ps : List Tree} {d : Nat}, depL ps ≤ d ↔ ∀ p ∈ ps, dep p ≤ d
  | [], d => by simp [depL]
  | p :: r, d => by
    simp only [depL, List.mem_cons, forall_eq_or_imp, ← depL_le (ps := r) (d := d)]
    omega
theorem cnt_append (L : Lot) : ∀ ps qs : List Tree, cnt L (ps ++ qs) = cnt L ps + cnt L qs
  | [], qs => by simp [cnt]
  | p :: r, qs => by
    have := cnt_append L r qs
    simp only [List.cons_append, cnt]
    omega
theorem cnt_perm (L : Lot) {ps qs : List Tree} (h : ps.Perm qs) : cnt L ps = cnt L qs := by
  induction h with
  | nil => rfl
  | cons x _ ih => simp only [cnt, ih]
  | swap x y l => simp only [cnt]; omega
  | trans _ _ a b => exact a.trans b
theorem ntr_append : ∀ ps qs : List Tree, ntr (ps ++ qs) = ntr ps + ntr qs
  | [], qs => by simp [ntr]
  | p :: r, qs => by
    have := ntr_append r qs
    simp only [List.cons_append, ntr]
    omega
theorem ntr_perm {ps qs : List Tree} (h : ps.Perm qs) : ntr ps = ntr qs := by
  induction h with
  | nil => rfl
  | cons x _ ih => simp only [ntr, ih]
  | swap x y l => simp only [ntr]; omega
  | trans _ _ a b => exact a.trans b
theorem btnsL_append : ∀ ps qs : List Tree, btnsL (ps ++ qs) = btnsL ps ++ btnsL qs
  | [], qs => rfl
  | p :: r, qs => by
    have := btnsL_append r qs
    simp only [List.cons_append, btnsL, this, List.append_assoc]
theorem btnsL_perm {ps qs : List Tree} (h : ps.Perm qs) : (btnsL ps).Perm (btnsL qs) := by
  induction h with
  | nil => exact .nil
  | cons x _ ih => exact ih.append_left _
  | swap x y l =>
    simp only [btnsL, ← List.append_assoc]
    exact List.perm_append_comm.append_right _
  | trans _ _ a b => exact a.trans b
theorem cnt_nonneg (L : Lot) : ∀ ps : List Tree, 0 ≤ cnt L ps ∧ cnt L ps ≤ (ps.length : Int)
  | [] => by simp [cnt]
  | p :: r => by
    have := cnt_nonneg L r
    simp only [cnt, List.length_cons]
    split <;> omega
theorem cnt_filter (L : Lot) : ∀ ps : List Tree, ((ps.filter (goes L)).length : Int) = cnt L ps
  | [] => by simp [cnt]
  | p :: r => by
    have := cnt_filter L r
    rw [List.filter_cons]
    simp only [cnt]
    split
    · rw [List.length_cons]; omega
    · omega
theorem mem_btnsL : ∀ {ps : List Tree} {b : Int}, b ∈ btnsL ps ↔ ∃ p ∈ ps, b ∈ btns p
  | [], b => by simp [btnsL]
  | p :: r, b => by simp [btnsL, mem_btnsL (ps := r) (b := b)]
/-- a tree's answer leans on its own buttons alone -/
theorem goes_congr_both {L L' : Lot} : (∀ t, (∀ b ∈ btns t, L b = L' b) → goes L t = goes L' t) ∧ ∀ ps, (∀ b ∈ btnsL ps, L b = L' b) → cnt L ps = cnt L' ps := by
  refine tree_ind (fun n h => h n (by simp [btns])) (fun k ps ih h => ?_) (fun _ => rfl) (fun p r h1 h2 h => ?_)
  · simp only [goes]
    rw [ih (by simpa [btns] using h)]
  · simp only [btnsL, List.mem_append] at h
    simp only [cnt]
    rw [h1 fun b hb => h b (.inl hb), h2 fun b hb => h b (.inr hb)]
theorem goes_congr {L L' : Lot} {t : Tree} (h : ∀ b ∈ btns t, L b = L' b) : goes L t = goes L' t := goes_congr_both.1 t h
theorem cnt_congr {L L' : Lot} {ps : List Tree} (h : ∀ b ∈ btnsL ps, L b = L' b) : cnt L ps = cnt L' ps := goes_congr_both.2 ps h
/-- all buttons pressed; none pressed -/
theorem full_both {L : Lot} : (∀ t, Ok t → (∀ b ∈ btns t, L b = true) → goes L t = true) ∧ ∀ ps, OkL ps → (∀ b ∈ btnsL ps, L b = true) → cnt L ps = (ps.length : Int) := by
  refine tree_ind (fun n _ h => h n (by simp [btns])) (fun k ps ih ok h => ?_) (fun _ _ => rfl) (fun p r h1 h2 ok h => ?_)
  · simp only [goes]
    rw [ih ok.2.2 (by simpa [btns] using h)]
    exact decide_eq_true ok.2.1
  · simp only [btnsL, List.mem_append] at h
    simp only [cnt, List.length_cons]
    rw [h1 ok.1 fun b hb => h b (.inl hb), h2 ok.2 fun b hb => h b (.inr hb), if_pos rfl]
    omega
theorem none_both {L : Lot} : (∀ t, Ok t → (∀ b ∈ btns t, L b = false) → goes L t = false) ∧ ∀ ps, OkL ps → (∀ b ∈ btnsL ps, L b = false) → cnt L ps = 0 := by
  refine tree_ind (fun n _ h => h n (by simp [btns])) (fun k ps ih ok h => ?_) (fun _ _ => rfl) (fun p r h1 h2 ok h => ?_)
  · simp only [goes]
    rw [ih ok.2.2 (by simpa [btns] using h)]
    have := ok.1
    exact decide_eq_false (by omega)
  · simp only [btnsL, List.mem_append] at h
    simp only [cnt]
    rw [h1 ok.1 fun b hb => h b (.inl hb), h2 ok.2 fun b hb => h b (.inr hb)]
    simp
theorem goes_full {L : Lot} {t : Tree} (ok : Ok t) (h : ∀ b ∈ btns t, L b = true) : goes L t = true := full_both.1 t ok h
theorem goes_none {L : Lot} {t : Tree} (ok : Ok t) (h : ∀ b ∈ btns t, L b = false) : goes L t = false := none_both.1 t ok h
theorem cnt_none {L : Lot} {ps : List Tree} (ok : OkL ps) (h : ∀ b ∈ btnsL ps, L b = false) : cnt L ps = 0 := none_both.2 ps ok h
theorem btns_pos_both : (∀ t, Ok t → 1 ≤ (btns t).length) ∧ ∀ ps, OkL ps → ps.length ≤ (btnsL ps).length := by
  refine tree_ind (fun n _ => by simp [btns]) (fun k ps ih ok => ?_) (fun _ => Nat.le_refl _) (fun p r h1 h2 ok => ?_)
  · have := ih ok.2.2
    have h1 := ok.1
    have h2 := ok.2.1
    simp only [btns]
    omega
  · have := h1 ok.1
    have := h2 ok.2
    simp only [btnsL, List.length_cons, List.length_append]
    omega
theorem parts_le {k : Int} {ps : List Tree} (ok : Ok (.trip k ps)) : ps.length ≤ (btns (.trip k ps)).length := btns_pos_both.2 ps ok.2.2
theorem one_part {k : Int} {ps : List Tree} (ok : Ok (.trip k ps)) : 1 ≤ ps.length := by
  have h1 := ok.1
  have h2 := ok.2.1
  omega
/-- more buttons, more goes -/
theorem mono_both {L L' : Lot} (h : ∀ b, L b = true → L' b = true) : (∀ t, goes L t = true → goes L' t = true) ∧ ∀ ps, cnt L ps ≤ cnt L' ps := by
  refine tree_ind (fun n q => h n q) (fun k ps ih q => ?_) (Int.le_refl _) (fun p r h1 h2 => ?_)
  · simp only [goes] at q ⊢
    have := of_decide_eq_true q
    exact decide_eq_true (by omega)
  · simp only [cnt]
    by_cases e : goes L p = true
    · rw [h1 e, e]; omega
    · rw [if_neg e]
      split <;> omega

/-! ### the contrary tree -/
mutual
def con : Tree → Tree
  | .btn n => .btn n
  | .trip k ps => .trip ((ps.length : Int) - k + 1) (conL ps)
def conL : List Tree → List Tree
  | [] => []
  | p :: r => con p :: conL r
end
theorem conL_map : ∀ ps : List Tree, conL ps = ps.map con
  | [] => rfl
  | p :: r => by simp [conL, conL_map r]
theorem conL_length (ps : List Tree) : (conL ps).length = ps.length := by rw [conL_map, List.length_map]
theorem con_goes_both {L : Lot} : (∀ t, goes L (con t) = !goes (fun b => !L b) t) ∧ ∀ ps, cnt L (conL ps) = (ps.length : Int) - cnt (fun b => !L b) ps := by
  refine tree_ind (fun n => by simp [con, goes]) (fun k ps ih => ?_) (by simp [conL, cnt]) (fun p r h1 h2 => ?_)
  · simp only [con, goes, ih]
    by_cases e : k ≤ cnt (fun b => !L b) ps
    · rw [decide_eq_true e, decide_eq_false (by omega)]; rfl
    · rw [decide_eq_false e, decide_eq_true (by omega)]; rfl
  · simp only [conL, cnt, h1, h2, List.length_cons]
    cases goes (fun b => !L b) p <;> simp <;> omega
theorem con_goes (L : Lot) (t : Tree) : goes L (con t) = !goes (fun b => !L b) t := con_goes_both.1 t
theorem con_btns_both : (∀ t, btns (con t) = btns t) ∧ ∀ ps, btnsL (conL ps) = btnsL ps := by
  refine tree_ind (fun n => rfl) (fun k ps ih => by simpa [con, btns] using ih) rfl (fun p r h1 h2 => by simp [conL, btnsL, h1, h2])
theorem con_btns (t : Tree) : btns (con t) = btns t := con_btns_both.1 t
theorem con_dep_both : (∀ t, dep (con t) = dep t) ∧ ∀ ps, depL (conL ps) = depL ps := by
  refine tree_ind (fun n => rfl) (fun k ps ih => by simpa [con, dep] using ih) rfl (fun p r h1 h2 => by simp [conL, depL, h1, h2])
theorem con_dep (t : Tree) : dep (con t) = dep t := con_dep_both.1 t
theorem con_ok_both : (∀ t, Ok t → Ok (con t)) ∧ ∀ ps, OkL ps → OkL (conL ps) := by
  refine tree_ind (fun n _ => trivial) (fun k ps ih ok => ?_) (fun _ => trivial) (fun p r h1 h2 ok => ⟨h1 ok.1, h2 ok.2⟩)
  obtain ⟨a, b, c⟩ := ok
  refine ⟨?_, ?_, ih c⟩
  · omega
  · rw [conL_length]; omega
theorem con_ok {t : Tree} (h : Ok t) : Ok (con t) := con_ok_both.1 t h

/-! ### told trees -/
/-- what a told tree has of its own -/
structure ToldOf (t t' : Tree) : Prop where
  goes : ∀ L, goes L t' = goes L t
  btns : (btns t').Perm (btns t)
  dep : dep t' ≤ dep t
  ok : Ok t'
  red : Red t'
  nest : Nest t → Nest t'
theorem ToldOf.btn (n : Int) : ToldOf (.btn n) (.btn n) := ⟨fun _ => rfl, .refl _, Nat.le_refl _, trivial, trivial, fun h => h⟩
/-- told_trip's own test: the part is of the outer one's kind -/
def like (k : Int) (n : Nat) : Tree → Bool
  | .btn _ => false
  | .trip j qs => (decide (k = 1) && decide (j = 1)) || (decide (k = (n : Int)) && decide (j = (qs.length : Int)))
def partsOf : Tree → List Tree
  | .btn n => [.btn n]
  | .trip _ qs => qs
def flat (k : Int) (n : Nat) : List Tree → List Tree
  | [] => []
  | p :: r => (if like k n p then partsOf p else [p]) ++ flat k n r
theorem flat_snoc (k : Int) (n : Nat) (ps : List Tree) (p : Tree) : flat k n (ps ++ [p]) = flat k n ps ++ (if like k n p then partsOf p else [p]) := by
  induction ps with
  | nil => simp [flat]
  | cons q r ih => simp [flat, ih]
theorem flat_btns (k : Int) (n : Nat) : ∀ ps : List Tree, btnsL (flat k n ps) = btnsL ps
  | [] => rfl
  | p :: r => by
    simp only [flat, btnsL_append, btnsL, flat_btns k n r]
    congr 1
    split
    · cases p with
      | btn m => simp [partsOf, btnsL]
      | trip j qs => simp [partsOf, btns]
    · simp [btnsL]
theorem flat_ok (k : Int) (n : Nat) : ∀ {ps : List Tree}, OkL ps → OkL (flat k n ps)
  | [], _ => trivial
  | p :: r, h => by
    have ih := flat_ok k n h.2
    rw [okL_iff] at ih ⊢
    intro x hx
    simp only [flat, List.mem_append] at hx
    rcases hx with hx | hx
    · split at hx
      · cases p with
        | btn m =>
          simp [partsOf] at hx; subst hx; trivial
        | trip j qs => exact okL_iff.mp h.1.2.2 x hx
      · simp at hx; subst hx; exact h.1
    · exact ih x hx
theorem flat_red (k : Int) (n : Nat) : ∀ {ps : List Tree}, RedL ps → RedL (flat k n ps)
  | [], _ => trivial
  | p :: r, h => by
    have ih := flat_red k n h.2
    rw [redL_iff] at ih ⊢
    intro x hx
    simp only [flat, List.mem_append] at hx
    rcases hx with hx | hx
    · split at hx
      · cases p with
        | btn m =>
          simp [partsOf] at hx; subst hx; trivial
        | trip j qs => exact redL_iff.mp h.1.2.2.2 x hx
      · simp at hx; subst hx; exact h.1
    · exact ih x hx
theorem flat_len (k : Int) (n : Nat) : ∀ {ps : List Tree}, RedL ps → ps.length ≤ (flat k n ps).length
  | [], _ => Nat.le_refl _
  | p :: r, h => by
    have ih := flat_len k n h.2
    simp only [flat, List.length_append, List.length_cons]
    have : 1 ≤ (if like k n p then partsOf p else [p]).length := by
      split
      · cases p with
        | btn m => simp [partsOf]
        | trip j qs =>
          have := h.1.1
          simp only [partsOf]; omega
      · simp
    omega
theorem flat_dep (k : Int) (n : Nat) : ∀ ps : List Tree, depL (flat k n ps) ≤ depL ps
  | [] => Nat.le_refl _
  | p :: r => by
    have ih := flat_dep k n r
    rw [depL_le] at ih ⊢
    intro x hx
    simp only [flat, List.mem_append] at hx
    simp only [depL]
    rcases hx with hx | hx
    · split at hx
      · cases p with
        | btn m =>
          simp [partsOf] at hx; subst hx; simp [dep]
        | trip j qs =>
          have := depL_le.mp (Nat.le_refl (depL qs)) x hx
          simp only [dep]
          omega
      · simp at hx; subst hx; omega
    · have := ih x hx; omega
theorem flat_nest (k : Int) (n : Nat) : ∀ {ps : List Tree}, NestL ps → NestL (flat k n ps)
  | [], _ => trivial
  | p :: r, h => by
    have ih := flat_nest k n h.2
    rw [nestL_iff] at ih ⊢
    intro x hx
    simp only [flat, List.mem_append] at hx
    rcases hx with hx | hx
    · split at hx
      · cases p with
        | btn m =>
          simp [partsOf] at hx; subst hx; trivial
        | trip j qs => exact nestL_iff.mp h.1.2 x hx
      · simp at hx; subst hx; exact h.1
    · exact ih x hx
theorem flat_ntr (k : Int) (n : Nat) : ∀ {ps : List Tree}, NestL ps → ntr (flat k n ps) ≤ ntr ps
  | [], _ => Nat.le_refl _
  | p :: r, h => by
    have ih := flat_ntr k n h.2
    simp only [flat, ntr_append, ntr]
    have : ntr (if like k n p then partsOf p else [p]) ≤ if isTrip p then 1 else 0 := by
      split
      · cases p with
        | btn m => simp [partsOf, ntr, isTrip]
        | trip j qs => simpa [partsOf, isTrip] using h.1.1
      · simp [ntr]
    omega
theorem like_one {n : Nat} (hn : 2 ≤ n) {p : Tree} : like 1 n p = true ↔ One p := by
  have h : ¬ ((1 : Int) = (n : Int)) := by omega
  cases p with
  | btn m => simp [like, One]
  | trip j qs => simp [like, One, h]
theorem like_all {n : Nat} (hn : 2 ≤ n) {p : Tree} : like (n : Int) n p = true ↔ All p := by
  have h : ¬ ((n : Int) = 1) := by omega
  cases p with
  | btn m => simp [like, All]
  | trip j qs => simp [like, All, h]
theorem like_mid {k : Int} {n : Nat} (h1 : k ≠ 1) (h2 : k ≠ (n : Int)) (p : Tree) : like k n p = false := by
  cases p with
  | btn m => simp [like]
  | trip j qs => simp [like, h1, h2]
theorem flat_mid {k : Int} {n : Nat} (h1 : k ≠ 1) (h2 : k ≠ (n : Int)) : ∀ ps : List Tree, flat k n ps = ps
  | [] => rfl
  | p :: r => by simp [flat, like_mid h1 h2 p, flat_mid h1 h2 r]
/-- any goes -/
theorem flat_any {n : Nat} (hn : 2 ≤ n) (L : Lot) : ∀ ps : List Tree, (1 ≤ cnt L (flat 1 n ps) ↔ 1 ≤ cnt L ps)
  | [] => Iff.rfl
  | p :: r => by
    have ih := flat_any hn L r
    have h1 := cnt_nonneg L (flat 1 n r)
    have h2 := cnt_nonneg L r
    simp only [flat, cnt_append, cnt]
    by_cases e : like 1 n p = true
    · rw [if_pos e]
      have eo := (like_one hn).mp e
      cases p with
      | btn m => exact eo.elim
      | trip j qs =>
        have ej : j = 1 := eo
        subst ej
        have h3 := cnt_nonneg L qs
        simp only [partsOf, goes]
        by_cases c : (1 : Int) ≤ cnt L qs
        · simp [c]; omega
        · simp [c]; omega
    · rw [if_neg e]
      simp only [cnt]
      omega
/-- all go -/
theorem flat_all {n : Nat} (hn : 2 ≤ n) (L : Lot) : ∀ ps : List Tree, (((flat (n : Int) n ps).length : Int) ≤ cnt L (flat (n : Int) n ps) ↔ (ps.length : Int) ≤ cnt L ps)
  | [] => Iff.rfl
  | p :: r => by
    have ih := flat_all hn L r
    have h1 := cnt_nonneg L (flat (n : Int) n r)
    have h2 := cnt_nonneg L r
    simp only [flat, cnt_append, cnt, List.length_append, List.length_cons]
    by_cases e : like (n : Int) n p = true
    · rw [if_pos e]
      have eo := (like_all hn).mp e
      cases p with
      | btn m => exact eo.elim
      | trip j qs =>
        have ej : j = (qs.length : Int) := eo
        subst ej
        have h3 := cnt_nonneg L qs
        simp only [partsOf, goes]
        by_cases c : (qs.length : Int) ≤ cnt L qs
        · simp [c]; omega
        · simp [c]; omega
    · rw [if_neg e]
      simp only [cnt, List.length_singleton]
      split <;> omega
/-- what told_trip makes of told parts -/
def newK (k : Int) (n m : Nat) : Int := if k = (n : Int) then (m : Int) else k
theorem told_many {k : Int} {ps srt : List Tree} (ok : Ok (.trip k ps)) (rd : RedL ps) (h2 : 2 ≤ ps.length) (hp : srt.Perm (flat k ps.length ps)) : ToldOf (.trip k ps) (.trip (newK k ps.length (flat k ps.length ps).length) srt) := by
  obtain ⟨k1, k2, okp⟩ := ok
  have fl := flat_len k ps.length rd
  have sl := hp.length_eq
  have rs : RedL srt := redL_iff.mpr fun p hx => redL_iff.mp (flat_red k ps.length rd) p (hp.mem_iff.mp hx)
  have os : OkL srt := okL_iff.mpr fun p hx => okL_iff.mp (flat_ok k ps.length okp) p (hp.mem_iff.mp hx)
  refine ⟨fun L => ?_, ?_, ?_, ?_, ?_, fun hn => ?_⟩
  · simp only [goes]
    rw [cnt_perm L hp]
    unfold newK
    by_cases e1 : k = (ps.length : Int)
    · rw [if_pos e1]
      have := flat_all h2 L ps
      rw [e1]
      exact decide_eq_decide.mpr this
    · rw [if_neg e1]
      by_cases e2 : k = 1
      · subst e2
        exact decide_eq_decide.mpr (flat_any h2 L ps)
      · rw [flat_mid e2 e1]
  · have := (btnsL_perm hp)
    rw [flat_btns] at this
    exact this
  · have d1 : depL srt ≤ depL (flat k ps.length ps) := depL_le.mpr fun p hx => depL_le.mp (Nat.le_refl _) p (hp.mem_iff.mp hx)
    have d2 := flat_dep k ps.length ps
    simp only [dep]
    omega
  · unfold newK
    refine ⟨?_, ?_, os⟩
    · split <;> omega
    · split <;> omega
  · unfold newK
    refine ⟨by omega, fun e p hx ho => ?_, fun e p hx ha => ?_, rs⟩
    · have hx := hp.mem_iff.mp hx
      have ek : k = 1 := by
        by_cases e1 : k = (ps.length : Int)
        · rw [if_pos e1] at e; omega
        · rw [if_neg e1] at e; exact e
      subst ek
      clear e hp sl rs os k1 k2 okp fl
      have key : ∀ qs : List Tree, RedL qs → ∀ p ∈ flat 1 ps.length qs, ¬ One p := by
        intro qs
        induction qs with
        | nil => intro _ p hp; simp [flat] at hp
        | cons q r ih =>
          intro hr p hp ho
          simp only [flat, List.mem_append] at hp
          rcases hp with hp | hp
          · by_cases el : like 1 ps.length q = true
            · rw [if_pos el] at hp
              have eo := (like_one h2).mp el
              cases q with
              | btn m => exact eo.elim
              | trip j us => exact hr.1.2.1 eo p hp ho
            · rw [if_neg el] at hp
              simp at hp; subst hp
              exact el ((like_one h2).mpr ho)
          · exact ih hr.2 p hp ho
      exact key ps rd p hx ho
    · have hx := hp.mem_iff.mp hx
      have ek : k = (ps.length : Int) := by
        by_cases e1 : k = (ps.length : Int)
        · exact e1
        · rw [if_neg e1] at e
          by_cases e2 : k = 1
          · omega
          · have z := flat_mid e2 e1 ps
            rw [z] at sl
            omega
      rw [ek] at hx
      clear e hp sl rs os k1 k2 okp fl ek
      have key : ∀ qs : List Tree, RedL qs → ∀ p ∈ flat (ps.length : Int) ps.length qs, ¬ All p := by
        intro qs
        induction qs with
        | nil => intro _ p hp; simp [flat] at hp
        | cons q r ih =>
          intro hr p hp ho
          simp only [flat, List.mem_append] at hp
          rcases hp with hp | hp
          · by_cases el : like (ps.length : Int) ps.length q = true
            · rw [if_pos el] at hp
              have eo := (like_all h2).mp el
              cases q with
              | btn m => exact eo.elim
              | trip j us => exact hr.1.2.2.1 eo p hp ho
            · rw [if_neg el] at hp
              simp at hp; subst hp
              exact el ((like_all h2).mpr ho)
          · exact ih hr.2 p hp ho
      exact key ps rd p hx ha
  · obtain ⟨n1, n2⟩ := hn
    refine ⟨?_, nestL_iff.mpr fun p hx => nestL_iff.mp (flat_nest k ps.length n2) p (hp.mem_iff.mp hx)⟩
    rw [ntr_perm hp]
    exact Nat.le_trans (flat_ntr k ps.length n2) n1
theorem told_one {k : Int} {p : Tree} (ok : Ok (.trip k [p])) (rd : Red p) : ToldOf (.trip k [p]) p := by
  obtain ⟨k1, k2, okp⟩ := ok
  have e : k = 1 := by simp at k2; omega
  subst e
  refine ⟨fun L => ?_, ?_, ?_, okp.1, rd, fun hn => hn.2.1⟩
  · show goes L p = decide (1 ≤ cnt L [p])
    by_cases e : goes L p = true
    · rw [e]
      exact (decide_eq_true (by simp [cnt, e])).symm
    · have e := Bool.eq_false_iff.mpr e
      rw [e]
      exact (decide_eq_false (by simp [cnt, e])).symm
  · simp [btns, btnsL]
  · simp only [dep, depL]; omega
/-- part by part -/
inductive Toldz : List Tree → List Tree → Prop
  | nil : Toldz [] []
  | cons {p q : Tree} {ps qs : List Tree} : ToldOf p q → Toldz ps qs → Toldz (p :: ps) (q :: qs)
theorem Toldz.snoc {ps qs : List Tree} {p q : Tree} (h : Toldz ps qs) (t : ToldOf p q) : Toldz (ps ++ [p]) (qs ++ [q]) := by
  induction h with
  | nil => exact .cons t .nil
  | cons a _ ih => exact .cons a ih
theorem Toldz.len {ps qs : List Tree} (h : Toldz ps qs) : qs.length = ps.length := by
  induction h with
  | nil => rfl
  | cons a _ ih => simp [ih]
theorem Toldz.red {ps qs : List Tree} (h : Toldz ps qs) : RedL qs := by
  induction h with
  | nil => trivial
  | cons a _ ih => exact ⟨a.red, ih⟩
theorem Toldz.ok {ps qs : List Tree} (h : Toldz ps qs) : OkL qs := by
  induction h with
  | nil => trivial
  | cons a _ ih => exact ⟨a.ok, ih⟩
theorem Toldz.cnt {ps qs : List Tree} (h : Toldz ps qs) (L : Lot) : cnt L qs = cnt L ps := by
  induction h with
  | nil => rfl
  | cons a _ ih => simp only [K94.cnt, ih, a.goes L]
theorem Toldz.btns {ps qs : List Tree} (h : Toldz ps qs) : (btnsL qs).Perm (btnsL ps) := by
  induction h with
  | nil => exact .refl _
  | cons a _ ih => exact a.btns.append ih
theorem Toldz.dep {ps qs : List Tree} (h : Toldz ps qs) : depL qs ≤ depL ps := by
  induction h with
  | nil => exact Nat.le_refl _
  | cons a _ ih =>
    have := a.dep
    simp only [depL]; omega
theorem ntr_nest {p q : Tree} (h : ToldOf p q) (hn : Nest p) : (if isTrip q then 1 else 0) ≤ if isTrip p then 1 else (0 : Nat) := by
  cases p with
  | trip k ps => cases q <;> simp [isTrip]
  | btn n =>
    cases q with
    | btn m => simp [isTrip]
    | trip j qs =>
      exfalso
      have hl := h.btns.length_eq
      have h2 := h.red.1
      have h3 := parts_le h.ok
      have h4 : (btns (.btn n)).length = 1 := rfl
      omega
theorem Toldz.nest {ps qs : List Tree} (h : Toldz ps qs) : NestL ps → NestL qs ∧ ntr qs ≤ ntr ps := by
  induction h with
  | nil => intro _; exact ⟨trivial, Nat.le_refl _⟩
  | cons a _ ih =>
    intro hn
    have q := ih hn.2
    have := ntr_nest a hn.1
    refine ⟨⟨a.nest hn.1, q.1⟩, ?_⟩
    simp only [ntr]; omega
/-- a trip's told parts, then told_trip -/
theorem ToldOf.trans {k : Int} {ps qs : List Tree} {t : Tree} (h : Toldz ps qs) (x : ToldOf (.trip k qs) t) : ToldOf (.trip k ps) t := by
  refine ⟨fun L => ?_, ?_, ?_, x.ok, x.red, fun hn => ?_⟩
  · rw [x.goes L]
    simp only [K94.goes, h.cnt L]
  · exact x.btns.trans h.btns
  · have h1 := x.dep
    have h2 := h.dep
    simp only [K94.dep] at h1 ⊢
    omega
  · have q := h.nest hn.2
    exact x.nest ⟨Nat.le_trans q.2 hn.1, q.1⟩
theorem Toldz.okTrip {k : Int} {ps qs : List Tree} (h : Toldz ps qs) (ok : Ok (.trip k ps)) : Ok (.trip k qs) := ⟨ok.1, by rw [h.len]; exact ok.2.1, h.ok⟩
end K94

/-! K94Math2: rows and scales of nests; trades of forks; no scale does what a fork does. Plain Lean. -/
namespace K94

/-! ### levels -/
abbrev Row := Int × List Int
def own : List Tree → List Int
  | [] => []
  | .btn n :: r => n :: own r
  | .trip _ _ :: r => own r
mutual
def rowsT : Tree → List Row
  | .btn n => [(1, [n])]
  | .trip k ps => (k, own ps) :: rowsL ps
def rowsL : List Tree → List Row
  | [] => []
  | p :: r => if isTrip p then rowsT p else rowsL r
end
def cntB (L : Lot) : List Int → Int
  | [] => 0
  | b :: r => (if L b then 1 else 0) + cntB L r
theorem cntB_le (L : Lot) : ∀ bs : List Int, 0 ≤ cntB L bs ∧ cntB L bs ≤ (bs.length : Int)
  | [] => by simp [cntB]
  | b :: r => by
    have := cntB_le L r
    simp only [cntB, List.length_cons]
    split <;> omega
def goesR (L : Lot) : List Row → Bool
  | [] => false
  | (k, bs) :: r => decide (k ≤ cntB L bs + if goesR L r then 1 else 0)
theorem ntr0_cnt (L : Lot) : ∀ ps : List Tree, ntr ps = 0 → cnt L ps = cntB L (own ps)
  | [], _ => rfl
  | .btn n :: r, h => by
    have h' : ntr r = 0 := by simpa [ntr, isTrip] using h
    show (if L n = true then 1 else 0) + cnt L r = (if L n = true then 1 else 0) + cntB L (own r)
    rw [ntr0_cnt L r h']
  | .trip k qs :: r, h => by simp [ntr, isTrip] at h
theorem ntr0_rows : ∀ ps : List Tree, ntr ps = 0 → rowsL ps = [] ∧ (ps.length = (own ps).length)
  | [], _ => ⟨rfl, rfl⟩
  | .btn n :: r, h => by
    have h' : ntr r = 0 := by simpa [ntr, isTrip] using h
    have q := ntr0_rows r h'
    simp [rowsL, isTrip, own, q.1, ← q.2]
  | .trip k qs :: r, h => by simp [ntr, isTrip] at h
theorem rows_goes (L : Lot) : (∀ t, Nest t → goesR L (rowsT t) = goes L t) ∧ ∀ ps, NestL ps → ntr ps ≤ 1 → cnt L ps = cntB L (own ps) + if goesR L (rowsL ps) then 1 else 0 := by
  refine tree_ind (fun n _ => ?_) (fun k ps ih hn => ?_) (fun _ _ => rfl) (fun p r h1 h2 hn hl => ?_)
  · show decide (1 ≤ cntB L [n] + 0) = L n
    by_cases e : L n = true
    · rw [e]
      exact decide_eq_true (by simp [cntB, e])
    · have e := Bool.eq_false_iff.mpr e
      rw [e]
      exact decide_eq_false (by simp [cntB, e])
  · simp only [rowsT, goesR, goes]
    rw [ih hn.2 hn.1]
  · cases p with
    | btn n =>
      have hl' : ntr r ≤ 1 := by simpa [ntr, isTrip] using hl
      have := h2 hn.2 hl'
      have e : rowsL (.btn n :: r) = rowsL r := by simp [rowsL, isTrip]
      rw [e]
      show (if L n = true then 1 else 0) + cnt L r = (if L n = true then 1 else 0) + cntB L (own r) + _
      omega
    | trip k qs =>
      have hl' : ntr r = 0 := by simp [ntr, isTrip] at hl; omega
      have := ntr0_cnt L r hl'
      have e : rowsL (.trip k qs :: r) = rowsT (.trip k qs) := by simp [rowsL, isTrip]
      rw [e, h1 hn.1]
      simp only [cnt, own, this]
      omega
def RowsOk : List Row → Prop
  | [] => True
  | (k, bs) :: r => 1 ≤ k ∧ k ≤ (bs.length : Int) + (if r.isEmpty then 0 else 1) ∧ RowsOk r
theorem rowsT_ne : ∀ t, (rowsT t).isEmpty = false
  | .btn n => rfl
  | .trip k ps => rfl
theorem rows_ok : (∀ t, Ok t → Nest t → RowsOk (rowsT t)) ∧ ∀ ps, OkL ps → NestL ps → ntr ps ≤ 1 → RowsOk (rowsL ps) ∧ (ps.length : Int) = ((own ps).length : Int) + if (rowsL ps).isEmpty then 0 else 1 := by
  refine tree_ind (fun n _ _ => ?_) (fun k ps ih ok hn => ?_) (fun _ _ _ => ⟨trivial, rfl⟩) (fun p r h1 h2 ok hn hl => ?_)
  · simp [rowsT, RowsOk]
  · have q := ih ok.2.2 hn.2 hn.1
    have k2 := ok.2.1
    rw [q.2] at k2
    exact ⟨ok.1, k2, q.1⟩
  · cases p with
    | btn n =>
      have hl' : ntr r ≤ 1 := by simpa [ntr, isTrip] using hl
      have q := h2 ok.2 hn.2 hl'
      have e : rowsL (.btn n :: r) = rowsL r := by simp [rowsL, isTrip]
      rw [e]
      refine ⟨q.1, ?_⟩
      have := q.2
      simp only [own, List.length_cons]
      omega
    | trip k qs =>
      have hl' : ntr r = 0 := by simp [ntr, isTrip] at hl; omega
      have e : rowsL (.trip k qs :: r) = rowsT (.trip k qs) := by simp [rowsL, isTrip]
      have z := (ntr0_rows r hl').2
      rw [e, rowsT_ne]
      refine ⟨h1 ok.1 hn.1, ?_⟩
      simp only [own, List.length_cons, z]
      simp
/-! ### weights -/
def wov (k m a b : Int) : Int := if k < 2 then a else if m ≥ k then (if b > a then b else a) else b
def pr : List Row → Int × Int
  | [] => (0, 0)
  | (k, bs) :: r => if r.isEmpty then (k, (bs.length : Int) - k + 1) else
      ((pr r).1 + (k - 1) * wov k bs.length (pr r).1 (pr r).2, (pr r).2 + ((bs.length : Int) - k + 1) * wov k bs.length (pr r).1 (pr r).2)
def wts : List Row → List Int
  | [] => []
  | (k, bs) :: r => (if r.isEmpty then 1 else wov k bs.length (pr r).1 (pr r).2) :: wts r
theorem wts_length : ∀ rs : List Row, (wts rs).length = rs.length
  | [] => rfl
  | (k, bs) :: r => by simp [wts, wts_length r]
def swz : List Row → List Int → List (Int × Int)
  | r :: rs, w :: ws => r.2.map (fun b => (b, w)) ++ swz rs ws
  | _, _ => []
def sumw (L : Lot) : List (Int × Int) → Int
  | [] => 0
  | (b, w) :: r => (if L b then w else 0) + sumw L r
theorem sumw_append (L : Lot) : ∀ xs ys, sumw L (xs ++ ys) = sumw L xs + sumw L ys
  | [], ys => by simp [sumw]
  | (b, w) :: r, ys => by
    have := sumw_append L r ys
    simp only [List.cons_append, sumw]
    omega
theorem sumw_perm (L : Lot) {xs ys : List (Int × Int)} (h : xs.Perm ys) : sumw L xs = sumw L ys := by
  induction h with
  | nil => rfl
  | cons x _ ih => simp only [sumw, ih]
  | swap x y l => simp only [sumw]; omega
  | trans _ _ a b => exact a.trans b
theorem sumw_congr {L L' : Lot} : ∀ {xs : List (Int × Int)}, (∀ p ∈ xs, L p.1 = L' p.1) → sumw L xs = sumw L' xs
  | [], _ => rfl
  | (b, w) :: r, h => by
    have h1 := h (b, w) (by simp)
    simp only at h1
    simp only [sumw, h1, sumw_congr (xs := r) fun p hp => h p (List.mem_cons_of_mem _ hp)]
theorem sumw_map (L : Lot) (w : Int) : ∀ bs : List Int, sumw L (bs.map fun b => (b, w)) = cntB L bs * w
  | [] => by simp [sumw, cntB]
  | b :: r => by
    have := sumw_map L w r
    simp only [List.map_cons, sumw, cntB, this, Int.add_mul]
    split <;> simp
theorem wov_facts {k m a b : Int} (ha : 1 ≤ a) (hb : 1 ≤ b) : 1 ≤ wov k m a b ∧ (k ≤ m → a ≤ wov k m a b) ∧ (2 ≤ k → b ≤ wov k m a b) ∨ m + 1 ≤ k ∧ 1 ≤ wov k m a b ∧ (2 ≤ k → b ≤ wov k m a b) := by
  unfold wov
  split
  · exact .inl ⟨ha, fun _ => Int.le_refl _, fun _ => by omega⟩
  · split
    · left
      split
      · exact ⟨hb, fun _ => by omega, fun _ => Int.le_refl _⟩
      · exact ⟨ha, fun _ => Int.le_refl _, fun _ => by omega⟩
    · right
      exact ⟨by omega, hb, fun _ => Int.le_refl _⟩
/-- the heart: one level more -/
theorem level {k m j w a b s : Int} {g : Bool} (hk : 1 ≤ k) (hkm : k ≤ m + 1) (hj0 : 0 ≤ j) (hjm : j ≤ m) (hw : 1 ≤ w) (hwa : k ≤ m → a ≤ w) (hwb : 2 ≤ k → b ≤ w) (hs0 : 0 ≤ s) (hs1 : s ≤ a + b - 1) (hg : g = decide (a ≤ s)) :
    decide (k ≤ j + if g then 1 else 0) = decide (a + (k - 1) * w ≤ j * w + s) := by
  have e1 : (k - 1) * w = j * w - (j - (k - 1)) * w := by rw [← Int.sub_mul]; congr 1; omega
  rw [e1]
  refine decide_eq_decide.mpr ?_
  by_cases h1 : 1 ≤ j - (k - 1)
  · have hn := Int.mul_nonneg (show 0 ≤ (j - (k - 1)) - 1 by omega) (show 0 ≤ w by omega)
    rw [Int.sub_mul, Int.one_mul] at hn
    have := hwa (by omega)
    have : k ≤ j + (if g then 1 else 0 : Int) := by split <;> omega
    simp only [this, true_iff]
    omega
  · by_cases h2 : j - (k - 1) = 0
    · rw [h2, Int.zero_mul]
      subst hg
      by_cases h3 : a ≤ s
      · simp [h3]; omega
      · simp [h3]; omega
    · have hn := Int.mul_nonneg (show 0 ≤ -1 - (j - (k - 1)) by omega) (show 0 ≤ w by omega)
      rw [Int.sub_mul] at hn
      have := hwb (by omega)
      have : ¬ k ≤ j + (if g then 1 else 0 : Int) := by split <;> omega
      simp only [this, false_iff]
      omega
theorem scale_rows (L : Lot) : ∀ rs : List Row, rs.isEmpty = false → RowsOk rs →
    1 ≤ (pr rs).1 ∧ 1 ≤ (pr rs).2 ∧ 0 ≤ sumw L (swz rs (wts rs)) ∧ sumw L (swz rs (wts rs)) ≤ (pr rs).1 + (pr rs).2 - 1 ∧ goesR L rs = decide ((pr rs).1 ≤ sumw L (swz rs (wts rs)))
  | (k, bs) :: r, _, h => by
    obtain ⟨k1, k2, hr⟩ := h
    have hc := cntB_le L bs
    by_cases e : r.isEmpty = true
    · have er : r = [] := List.isEmpty_iff.mp e
      subst er
      simp at k2
      simp only [pr, wts, swz, goesR, sumw_append, sumw_map, List.isEmpty_nil, if_true, sumw, Int.mul_one]
      refine ⟨k1, by omega, by omega, by omega, ?_⟩
      simp
    · have e' : r.isEmpty = false := Bool.eq_false_iff.mpr e
      obtain ⟨a1, b1, s0, s1, hg⟩ := scale_rows L r e' hr
      simp only [e', Bool.false_eq_true, if_false] at k2
      simp only [pr, wts, swz, goesR, sumw_append, sumw_map, e', Bool.false_eq_true, if_false]
      generalize hA : (pr r).1 = a at *
      generalize hB : (pr r).2 = b at *
      generalize hS : sumw L (swz r (wts r)) = s at *
      generalize hW : wov k bs.length a b = w at *
      generalize hJ : cntB L bs = j at *
      have hw : 1 ≤ w ∧ (k ≤ (bs.length : Int) → a ≤ w) ∧ (2 ≤ k → b ≤ w) := by
        have := wov_facts (k := k) (m := bs.length) a1 b1
        rw [hW] at this
        rcases this with q | q
        · exact q
        · exact ⟨q.2.1, fun _ => by omega, q.2.2⟩
      have n1 := Int.mul_nonneg (show 0 ≤ k - 1 by omega) (show 0 ≤ w by omega)
      have n2 := Int.mul_nonneg (show 0 ≤ (bs.length : Int) - k + 1 by omega) (show 0 ≤ w by omega)
      have n3 := Int.mul_nonneg hc.1 (show 0 ≤ w by omega)
      have n4 := Int.mul_nonneg (show 0 ≤ (bs.length : Int) - j by omega) (show 0 ≤ w by omega)
      have e1 : (k - 1) * w + ((bs.length : Int) - k + 1) * w = (bs.length : Int) * w := by rw [← Int.add_mul]; congr 1; omega
      rw [Int.sub_mul] at n4
      refine ⟨by omega, by omega, by omega, by omega, ?_⟩
      exact level k1 k2 hc.1 hc.2 hw.1 hw.2.1 hw.2.2 s0 s1 hg
/-- what scale_of's rows tell -/
theorem scale_nest {t : Tree} (ok : Ok t) (hn : Nest t) (L : Lot) : goes L t = decide ((pr (rowsT t)).1 ≤ sumw L (swz (rowsT t) (wts (rowsT t)))) := by
  rw [← (rows_goes L).1 t hn]
  exact (scale_rows L _ (rowsT_ne t) (rows_ok.1 t ok hn)).2.2.2.2
/-- the buttons of the rows -/
def btnsR : List Row → List Int
  | [] => []
  | (_, bs) :: r => bs ++ btnsR r
theorem ntr0_btns : ∀ ps : List Tree, ntr ps = 0 → btnsL ps = own ps
  | [], _ => rfl
  | .btn n :: r, h => by
    have h' : ntr r = 0 := by simpa [ntr, isTrip] using h
    simp [btnsL, btns, own, ntr0_btns r h']
  | .trip k qs :: r, h => by simp [ntr, isTrip] at h
theorem rows_btns : (∀ t, Nest t → (btnsR (rowsT t)).Perm (btns t)) ∧ ∀ ps, NestL ps → ntr ps ≤ 1 → (own ps ++ btnsR (rowsL ps)).Perm (btnsL ps) := by
  refine tree_ind (fun n _ => by simp [rowsT, btnsR, btns]) (fun k ps ih hn => ?_) (fun _ _ => by simp [own, rowsL, btnsR, btnsL]) (fun p r h1 h2 hn hl => ?_)
  · simpa [rowsT, btnsR, btns] using ih hn.2 hn.1
  · cases p with
    | btn n =>
      have hl' : ntr r ≤ 1 := by simpa [ntr, isTrip] using hl
      simpa [own, rowsL, isTrip, btnsL, btns] using h2 hn.2 hl'
    | trip k qs =>
      have hl' : ntr r = 0 := by simp [ntr, isTrip] at hl; omega
      have e : rowsL (.trip k qs :: r) = rowsT (.trip k qs) := by simp [rowsL, isTrip]
      rw [e]
      simp only [own, btnsL, ntr0_btns r hl']
      exact List.perm_append_comm.trans ((h1 hn.1).append_right _)
theorem swz_btns : ∀ (rs : List Row) (ws : List Int), ws.length = rs.length → (swz rs ws).map Prod.fst = btnsR rs
  | [], [], _ => rfl
  | (k, bs) :: rs, w :: ws, h => by
    have ih := swz_btns rs ws (by simpa using h)
    simp only [swz, btnsR, List.map_append, ih, List.map_map]
    congr 1
    exact List.map_id' bs
  | [], _ :: _, h => by simp at h
  | _ :: _, [], h => by simp at h
theorem swz_nest {t : Tree} (hn : Nest t) : ((swz (rowsT t) (wts (rowsT t))).map Prod.fst).Perm (btns t) := by
  rw [swz_btns _ _ (wts_length _)]
  exact rows_btns.1 t hn

/-! ### trades -/
def bn (c : Bool) : Int := if c then 1 else 0
def Trade (t : Tree) : Prop := ∃ A B C D : Lot, goes A t = true ∧ goes B t = true ∧ goes C t = false ∧ goes D t = false ∧ ∀ b, bn (A b) + bn (B b) = bn (C b) + bn (D b)
theorem sumw_trade {A B C D : Lot} (h : ∀ b, bn (A b) + bn (B b) = bn (C b) + bn (D b)) : ∀ xs, sumw A xs + sumw B xs = sumw C xs + sumw D xs
  | [] => by simp [sumw]
  | (b, w) :: r => by
    have ih := sumw_trade h r
    have hb := h b
    simp only [sumw]
    unfold bn at hb
    generalize A b = x1 at *
    generalize B b = x2 at *
    generalize C b = x3 at *
    generalize D b = x4 at *
    cases x1 <;> cases x2 <;> cases x3 <;> cases x4 <;> simp at hb ⊢ <;> omega
/-- no scale does what a tree with a trade does -/
theorem trade_parts {t : Tree} (h : Trade t) (rows : List (Int × Int)) (bound : Int) : ∃ L : Lot, goes L t ≠ decide (bound ≤ sumw L rows) := by
  obtain ⟨A, B, C, D, hA, hB, hC, hD, hs⟩ := h
  have q := sumw_trade hs rows
  by_cases a : goes A t = decide (bound ≤ sumw A rows)
  · by_cases b : goes B t = decide (bound ≤ sumw B rows)
    · by_cases c : goes C t = decide (bound ≤ sumw C rows)
      · refine ⟨D, fun d => ?_⟩
        rw [hA] at a
        rw [hB] at b
        rw [hC] at c
        rw [hD] at d
        have a := of_decide_eq_true a.symm
        have b := of_decide_eq_true b.symm
        have c := of_decide_eq_false c.symm
        have d := of_decide_eq_false d.symm
        omega
      · exact ⟨C, c⟩
    · exact ⟨B, b⟩
  · exact ⟨A, a⟩
theorem Trade.same {t t' : Tree} (h : Trade t) (e : ∀ L, goes L t' = goes L t) : Trade t' := by
  obtain ⟨A, B, C, D, hA, hB, hC, hD, hs⟩ := h
  exact ⟨A, B, C, D, (e A).trans hA, (e B).trans hB, (e C).trans hC, (e D).trans hD, hs⟩
theorem Trade.of_con {t : Tree} (h : Trade (con t)) : Trade t := by
  obtain ⟨A, B, C, D, hA, hB, hC, hD, hs⟩ := h
  rw [con_goes] at hA hB hC hD
  refine ⟨fun b => !C b, fun b => !D b, fun b => !A b, fun b => !B b, by simpa using hC, by simpa using hD, by simpa using hA, by simpa using hB, fun b => ?_⟩
  have hb := hs b
  show bn (!C b) + bn (!D b) = bn (!A b) + bn (!B b)
  unfold bn at hb ⊢
  generalize A b = x1 at *
  generalize B b = x2 at *
  generalize C b = x3 at *
  generalize D b = x4 at *
  cases x1 <;> cases x2 <;> cases x3 <;> cases x4 <;> simp at hb ⊢
theorem trip_perm {k : Int} {ps qs : List Tree} (h : ps.Perm qs) (L : Lot) : goes L (.trip k ps) = goes L (.trip k qs) := by
  simp only [goes]
  rw [cnt_perm L h]
/-- the first m of some trees, all their buttons -/
def Pk (os : List Tree) (m : Nat) : Lot := fun b => decide (b ∈ btnsL (os.take m))
theorem cnt_take {L : Lot} : ∀ {os : List Tree} {m : Nat}, OkL os → (btnsL os).Nodup → m ≤ os.length → (∀ b ∈ btnsL os, L b = Pk os m b) → cnt L os = (m : Int)
  | [], m, _, _, hm, _ => by
    have : m = 0 := by simpa using hm
    subst this
    rfl
  | o :: r, 0, ok, _, _, h => by
    refine cnt_none ok fun b hb => ?_
    rw [h b hb]
    simp [Pk, btnsL]
  | o :: r, m + 1, ok, nd, hm, h => by
    simp only [btnsL] at nd
    have nd' := List.nodup_append.mp nd
    have h1 : goes L o = true := goes_full ok.1 fun b hb => by
      rw [h b (by simp [btnsL, hb])]
      simp [Pk, btnsL, hb]
    have h2 := cnt_take (L := L) (os := r) (m := m) ok.2 nd'.2.1 (by simpa using hm) fun b hb => by
      rw [h b (by simp [btnsL, hb])]
      have : b ∉ btns o := fun hx => nd'.2.2 b hx b hb rfl
      simp [Pk, btnsL, this]
    simp only [cnt, h1, h2, if_true]
    omega
/-- a lot of the buttons of p, one of q's, the first m of the others -/
def mk (p q : Tree) (os : List Tree) (X Y : Lot) (m : Nat) : Lot := fun b => if b ∈ btns p then X b else if b ∈ btns q then Y b else Pk os m b
theorem cnt_mk {p q : Tree} {os : List Tree} {X Y : Lot} {m : Nat} (ok : OkL os) (nd : (btnsL (p :: q :: os)).Nodup) (hm : m ≤ os.length) :
    cnt (mk p q os X Y m) (p :: q :: os) = (if goes X p then 1 else 0) + (if goes Y q then 1 else 0) + (m : Int) := by
  simp only [btnsL] at nd
  have n1 := List.nodup_append.mp nd
  have n2 := List.nodup_append.mp n1.2.1
  have e1 : goes (mk p q os X Y m) p = goes X p := goes_congr fun b hb => by simp [mk, hb]
  have e2 : goes (mk p q os X Y m) q = goes Y q := goes_congr fun b hb => by
    have : b ∉ btns p := fun hx => n1.2.2 b hx b (by simp [hb]) rfl
    simp [mk, hb, this]
  have e3 : cnt (mk p q os X Y m) os = (m : Int) := cnt_take ok n2.2.1 hm fun b hb => by
    have h1 : b ∉ btns p := fun hx => n1.2.2 b hx b (by simp [hb]) rfl
    have h2 : b ∉ btns q := fun hx => n2.2.2 b hx b hb rfl
    simp [mk, h1, h2]
  simp only [cnt, e1, e2, e3]
  omega
/-- a lot that fails, and goes with one button more -/
theorem pivot_from {p : Tree} (hok : Ok p) : ∀ (l2 l1 : List Int), goes (fun b => decide (b ∈ l1)) p = false → goes (fun b => decide (b ∈ l1 ++ l2)) p = true → (∀ b ∈ l1 ++ l2, b ∈ btns p) →
    ∃ (A : Lot) (c : Int), c ∈ btns p ∧ A c = false ∧ (∀ b, A b = true → b ∈ btns p) ∧ goes A p = false ∧ goes (fun b => A b || decide (b = c)) p = true
  | [], l1, h0, h1, _ => by
    rw [List.append_nil, h0] at h1
    exact absurd h1 (by decide)
  | c :: r, l1, h0, h1, hs => by
    have e : l1 ++ c :: r = (l1 ++ [c]) ++ r := by simp
    by_cases h : goes (fun b => decide (b ∈ l1 ++ [c])) p = true
    · have eq : (fun b : Int => decide (b ∈ l1 ++ [c])) = fun b => decide (b ∈ l1) || decide (b = c) := by
        funext b
        simp [List.mem_append]
      refine ⟨fun b => decide (b ∈ l1), c, hs c (by simp), ?_, fun b hb => hs b (by simp [of_decide_eq_true hb]), h0, by rw [← eq]; exact h⟩
      refine decide_eq_false fun hc => ?_
      have eq2 : (fun b : Int => decide (b ∈ l1 ++ [c])) = fun b => decide (b ∈ l1) := by
        funext b
        refine decide_eq_decide.mpr ⟨fun q => ?_, fun q => by simp [q]⟩
        rcases List.mem_append.mp q with q | q
        · exact q
        · have : b = c := by simpa using q
          rw [this]
          exact hc
      rw [eq2, h0] at h
      exact absurd h (by decide)
    · rw [e] at h1 hs
      exact pivot_from hok r (l1 ++ [c]) (Bool.eq_false_iff.mpr h) h1 hs
theorem pivot {p : Tree} (hok : Ok p) : ∃ (A : Lot) (c : Int), c ∈ btns p ∧ A c = false ∧ (∀ b, A b = true → b ∈ btns p) ∧ goes A p = false ∧ goes (fun b => A b || decide (b = c)) p = true :=
  pivot_from hok (btns p) [] (goes_none hok fun b _ => by simp) (goes_full hok fun b hb => by simp [hb]) fun b hb => by simpa using hb
def Two : Tree → Prop
  | .btn _ => False
  | .trip j _ => 2 ≤ j
theorem cnt_single {c : Int} : ∀ {qs : List Tree}, OkL qs → (btnsL qs).Nodup → cnt (fun b => decide (b = c)) qs ≤ 1
  | [], _, _ => by simp [cnt]
  | q :: r, ok, nd => by
    simp only [btnsL] at nd
    have n1 := List.nodup_append.mp nd
    simp only [cnt]
    by_cases h : c ∈ btns q
    · have : cnt (fun b => decide (b = c)) r = 0 := cnt_none ok.2 fun b hb => decide_eq_false fun e => by
        subst e
        exact n1.2.2 b h b hb rfl
      split <;> omega
    · have h1 : goes (fun b => decide (b = c)) q = false := goes_none ok.1 fun b hb => decide_eq_false fun e => by
        subst e
        exact h hb
      have ih := cnt_single (c := c) ok.2 n1.2.1
      rw [h1]
      simp
      omega
theorem two_single {p : Tree} {c : Int} (ok : Ok p) (nd : (btns p).Nodup) (h : Two p) : goes (fun b => decide (b = c)) p = false := by
  cases p with
  | btn n => exact h.elim
  | trip j qs =>
    have h2 : 2 ≤ j := h
    have := cnt_single (c := c) ok.2.2 nd
    simp only [goes]
    exact decide_eq_false (by omega)
theorem goes_off {p : Tree} (ok : Ok p) : goes (fun _ => false) p = false := goes_none ok fun _ _ => rfl
theorem goes_trip {L : Lot} {k : Int} {ps : List Tree} : goes L (.trip k ps) = decide (k ≤ cnt L ps) := by simp only [goes]
/-- case 1 -/
theorem trade1 {k : Int} {p q : Tree} {os : List Tree} (ok : Ok (.trip k (p :: q :: os))) (nd : (btnsL (p :: q :: os)).Nodup) (hk : k ≤ (os.length : Int) + 1) (hp : Two p) (hq : Two q) : Trade (.trip k (p :: q :: os)) := by
  obtain ⟨k1, _, okp, okq, oko⟩ := ok
  have nd0 := nd
  simp only [btnsL] at nd
  have n1 := List.nodup_append.mp nd
  have n2 := List.nodup_append.mp n1.2.1
  obtain ⟨A1, c1, hc1, f1, s1, g1, t1⟩ := pivot okp
  obtain ⟨A2, c2, hc2, f2, s2, g2, t2⟩ := pivot okq
  have u1 := two_single (c := c1) okp n1.1 hp
  have u2 := two_single (c := c2) okq n2.1 hq
  have ho1 := goes_off okp
  have ho2 := goes_off okq
  have hm : (k - 1).toNat ≤ os.length := by omega
  have em : (((k - 1).toNat : Nat) : Int) = k - 1 := by omega
  refine ⟨mk p q os (fun b => A1 b || decide (b = c1)) (fun _ => false) (k - 1).toNat, mk p q os (fun _ => false) (fun b => A2 b || decide (b = c2)) (k - 1).toNat,
    mk p q os A1 (fun b => decide (b = c2)) (k - 1).toNat, mk p q os (fun b => decide (b = c1)) A2 (k - 1).toNat, ?_, ?_, ?_, ?_, fun b => ?_⟩
  · rw [goes_trip, cnt_mk oko nd0 hm, t1, ho2, em]
    exact decide_eq_true (by simp; omega)
  · rw [goes_trip, cnt_mk oko nd0 hm, ho1, t2, em]
    exact decide_eq_true (by simp; omega)
  · rw [goes_trip, cnt_mk oko nd0 hm, g1, u2, em]
    exact decide_eq_false (by simp; omega)
  · rw [goes_trip, cnt_mk oko nd0 hm, u1, g2, em]
    exact decide_eq_false (by simp; omega)
  · unfold mk
    by_cases hb : b ∈ btns p
    · simp only [if_pos hb]
      by_cases e : b = c1
      · subst e
        simp [f1, bn]
      · simp [e, bn]
    · simp only [if_neg hb]
      by_cases hb2 : b ∈ btns q
      · simp only [if_pos hb2]
        by_cases e : b = c2
        · subst e
          simp [f2, bn]
        · simp [e, bn]
      · simp only [if_neg hb2]
/-- case 3: a one-of and an all-of -/
theorem trade3 {k : Int} {x y : Tree} {rest qs : List Tree} {os : List Tree} (ok : Ok (.trip k (.trip 1 (x :: y :: rest) :: .trip (qs.length : Int) qs :: os))) (nd : (btnsL (.trip 1 (x :: y :: rest) :: .trip (qs.length : Int) qs :: os)).Nodup)
    (h2 : 2 ≤ k) (hk : k ≤ (os.length : Int) + 1) (hq : 2 ≤ qs.length) : Trade (.trip k (.trip 1 (x :: y :: rest) :: .trip (qs.length : Int) qs :: os)) := by
  obtain ⟨k1, _, okp, okq, oko⟩ := ok
  have nd0 := nd
  simp only [btnsL] at nd
  have n1 := List.nodup_append.mp nd
  have n2 := List.nodup_append.mp n1.2.1
  have okp0 := okp
  obtain ⟨_, _, okx, oky, okr⟩ := okp
  have np : (btnsL (x :: y :: rest)).Nodup := n1.1
  simp only [btnsL] at np
  have m1 := List.nodup_append.mp np
  have m2 := List.nodup_append.mp m1.2.1
  obtain ⟨A1, c1, hc1, f1, s1, g1, t1⟩ := pivot okx
  obtain ⟨A2, c2, hc2, f2, s2, g2, t2⟩ := pivot okq
  have u2 := two_single (c := c2) okq n2.1 (show (2 : Int) ≤ (qs.length : Int) by omega)
  have ho2 := goes_off okq
  -- the one-of
  have eL : goes (fun b => decide (b ∈ btns y)) (.trip 1 (x :: y :: rest)) = true := by
    have : goes (fun b => decide (b ∈ btns y)) y = true := goes_full oky fun b hb => by simp [hb]
    have h3 := cnt_nonneg (fun b => decide (b ∈ btns y)) rest
    simp only [goes, cnt, this]
    refine decide_eq_true ?_
    simp
    split <;> omega
  have eB : goes (fun b => A1 b || decide (b = c1)) (.trip 1 (x :: y :: rest)) = true := by
    have h3 := cnt_nonneg (fun b => A1 b || decide (b = c1)) rest
    simp only [goes, cnt, t1]
    refine decide_eq_true ?_
    simp
    split <;> omega
  have eD : goes A1 (.trip 1 (x :: y :: rest)) = false := by
    have hy : goes A1 y = false := goes_none oky fun b hb => by
      refine Bool.eq_false_iff.mpr fun h => ?_
      exact m1.2.2 b (s1 b h) b (by simp [hb]) rfl
    have hr : cnt A1 rest = 0 := cnt_none okr fun b hb => by
      refine Bool.eq_false_iff.mpr fun h => ?_
      exact m1.2.2 b (s1 b h) b (by simp [hb]) rfl
    simp only [goes, cnt, g1, hy, hr]
    decide
  have hm : (k - 1).toNat ≤ os.length := by omega
  have em : (((k - 1).toNat : Nat) : Int) = k - 1 := by omega
  have hm2 : (k - 2).toNat ≤ os.length := by omega
  have em2 : (((k - 2).toNat : Nat) : Int) = k - 2 := by omega
  have cy : c1 ∉ btns y := fun h => m1.2.2 c1 hc1 c1 (by simp [h]) rfl
  refine ⟨mk (.trip 1 (x :: y :: rest)) (.trip (qs.length : Int) qs) os (fun b => decide (b ∈ btns y)) (fun b => A2 b || decide (b = c2)) (k - 2).toNat, mk (.trip 1 (x :: y :: rest)) (.trip (qs.length : Int) qs) os (fun b => A1 b || decide (b = c1)) (fun _ => false) (k - 1).toNat,
    mk (.trip 1 (x :: y :: rest)) (.trip (qs.length : Int) qs) os (fun b => decide (b ∈ btns y) || decide (b = c1)) A2 (k - 2).toNat, mk (.trip 1 (x :: y :: rest)) (.trip (qs.length : Int) qs) os A1 (fun b => decide (b = c2)) (k - 1).toNat, ?_, ?_, ?_, ?_, fun b => ?_⟩
  · rw [goes_trip, cnt_mk oko nd0 hm2, eL, t2, em2]
    exact decide_eq_true (by simp; omega)
  · rw [goes_trip, cnt_mk oko nd0 hm, eB, ho2, em]
    exact decide_eq_true (by simp; omega)
  · rw [goes_trip, cnt_mk oko nd0 hm2, g2, em2]
    refine decide_eq_false ?_
    simp
    split <;> omega
  · rw [goes_trip, cnt_mk oko nd0 hm, eD, u2, em]
    exact decide_eq_false (by simp; omega)
  · unfold mk
    by_cases hb : b ∈ btns (.trip 1 (x :: y :: rest))
    · simp only [if_pos hb]
      by_cases e : b = c1
      · subst e
        simp [f1, bn, cy]
      · simp [e, bn]
    · simp only [if_neg hb]
      by_cases hb2 : b ∈ btns (.trip (qs.length : Int) qs)
      · simp only [if_pos hb2]
        by_cases e : b = c2
        · subst e
          simp [f2, bn]
        · simp [e, bn]
      · simp only [if_neg hb2]
        try omega
theorem two_of {p : Tree} (ok : Ok p) (ht : isTrip p = true) (h : ¬ One p) : Two p := by
  cases p with
  | btn n => cases ht
  | trip j qs =>
    have h1 := ok.1
    have h2 : ¬ j = 1 := h
    show 2 ≤ j
    omega
theorem con_two {p : Tree} (ok : Ok p) (ht : isTrip p = true) (h : ¬ All p) : Two (con p) := by
  cases p with
  | btn n => cases ht
  | trip j qs =>
    have h1 := ok.2.1
    have h2 : ¬ j = (qs.length : Int) := h
    show 2 ≤ (qs.length : Int) - j + 1
    omega
theorem trade_two {k : Int} {p q : Tree} {os : List Tree} (ok : Ok (.trip k (p :: q :: os))) (nd : (btnsL (p :: q :: os)).Nodup) (rd : Red (.trip k (p :: q :: os))) (hp : isTrip p = true) (hq : isTrip q = true) : Trade (.trip k (p :: q :: os)) := by
  have ok0 := ok
  obtain ⟨k1, k2, okp, okq, oko⟩ := ok
  obtain ⟨_, r1, r2, rp, rq, ro⟩ := rd
  simp only [List.length_cons] at k2 r2
  have swap : (q :: p :: os).Perm (p :: q :: os) := .swap _ _ _
  have case2 : 2 ≤ k → ¬ All p → ¬ All q → Trade (.trip k (p :: q :: os)) := fun h2 ha hb => by
    refine Trade.of_con ?_
    simp only [con, conL, List.length_cons]
    refine trade1 ⟨by omega, by simp only [List.length_cons, conL_length]; omega, con_ok okp, con_ok okq, con_ok_both.2 _ oko⟩ ?_ (by rw [conL_length]; omega) (con_two okp hp ha) (con_two okq hq hb)
    simp only [btnsL, con_btns, con_btns_both.2]
    exact nd
  by_cases e1 : k = 1
  · exact trade1 ok0 nd (by omega) (two_of okp hp (r1 e1 p (by simp))) (two_of okq hq (r1 e1 q (by simp)))
  · by_cases en : k = ((os.length + 1 + 1 : Nat) : Int)
    · exact case2 (by omega) (r2 en p (by simp)) (r2 en q (by simp))
    · by_cases hpq : ¬ One p ∧ ¬ One q
      · exact trade1 ok0 nd (by omega) (two_of okp hp hpq.1) (two_of okq hq hpq.2)
      · by_cases haq : ¬ All p ∧ ¬ All q
        · exact case2 (by omega) haq.1 haq.2
        · cases p with
          | btn n => cases hp
          | trip j us =>
            cases q with
            | btn n => cases hq
            | trip j' vs =>
              have l1 := rp.1
              have l2 := rq.1
              have h1 : j = 1 ∨ j' = 1 := by
                by_cases a : j = 1
                · exact .inl a
                · by_cases b : j' = 1
                  · exact .inr b
                  · exact absurd ⟨a, b⟩ hpq
              have h2 : j = (us.length : Int) ∨ j' = (vs.length : Int) := by
                by_cases a : j = (us.length : Int)
                · exact .inl a
                · by_cases b : j' = (vs.length : Int)
                  · exact .inr b
                  · exact absurd ⟨a, b⟩ haq
              have hh : (j = 1 ∧ j' = (vs.length : Int)) ∨ (j' = 1 ∧ j = (us.length : Int)) := by omega
              rcases hh with ⟨ea, eb⟩ | ⟨ea, eb⟩
              · subst ea
                subst eb
                match us, l1 with
                | x :: y :: rest, _ => exact trade3 ok0 nd (by omega) (by omega) l2
              · subst ea
                subst eb
                match vs, l2 with
                | x :: y :: rest, _ =>
                  refine Trade.same (trade3 (k := k) (x := x) (y := y) (rest := rest) (qs := us) (os := os) ⟨k1, by simp only [List.length_cons]; omega, okq, okp, oko⟩ ?_ (by omega) (by omega) l1) fun L => trip_perm swap.symm L
                  exact (btnsL_perm swap).nodup_iff.mpr nd
/-- a part's trade -/
theorem trade_lift {k : Int} {p : Tree} {os : List Tree} (ok : Ok (.trip k (p :: os))) (nd : (btnsL (p :: os)).Nodup) (h : Trade p) : Trade (.trip k (p :: os)) := by
  obtain ⟨k1, k2, okp, oko⟩ := ok
  simp only [List.length_cons] at k2
  simp only [btnsL] at nd
  have n1 := List.nodup_append.mp nd
  have hm : (k - 1).toNat ≤ os.length := by omega
  have em : (((k - 1).toNat : Nat) : Int) = k - 1 := by omega
  have key : ∀ X : Lot, cnt (fun b => if b ∈ btns p then X b else Pk os (k - 1).toNat b) (p :: os) = (if goes X p then 1 else 0) + (k - 1) := fun X => by
    have e1 : goes (fun b => if b ∈ btns p then X b else Pk os (k - 1).toNat b) p = goes X p := goes_congr fun b hb => by simp [hb]
    have e2 : cnt (fun b => if b ∈ btns p then X b else Pk os (k - 1).toNat b) os = (((k - 1).toNat : Nat) : Int) := cnt_take oko n1.2.1 hm fun b hb => by
      have : b ∉ btns p := fun hx => n1.2.2 b hx b hb rfl
      simp [this]
    simp only [cnt, e1, e2, em]
  obtain ⟨A, B, C, D, hA, hB, hC, hD, hs⟩ := h
  refine ⟨fun b => if b ∈ btns p then A b else Pk os (k - 1).toNat b, fun b => if b ∈ btns p then B b else Pk os (k - 1).toNat b, fun b => if b ∈ btns p then C b else Pk os (k - 1).toNat b,
    fun b => if b ∈ btns p then D b else Pk os (k - 1).toNat b, ?_, ?_, ?_, ?_, fun b => ?_⟩
  · rw [goes_trip, key, hA]
    exact decide_eq_true (by simp; omega)
  · rw [goes_trip, key, hB]
    exact decide_eq_true (by simp; omega)
  · rw [goes_trip, key, hC]
    exact decide_eq_false (by simp; omega)
  · rw [goes_trip, key, hD]
    exact decide_eq_false (by simp; omega)
  · simp only
    by_cases hb : b ∈ btns p
    · simp only [if_pos hb]
      exact hs b
    · simp only [if_neg hb]
theorem ntr_two : ∀ {ps : List Tree}, 2 ≤ ntr ps → ∃ p q os, isTrip p = true ∧ isTrip q = true ∧ ps.Perm (p :: q :: os) := by
  have one : ∀ {ps : List Tree}, 1 ≤ ntr ps → ∃ p os, isTrip p = true ∧ ps.Perm (p :: os) := by
    intro ps
    induction ps with
    | nil => intro h; simp [ntr] at h
    | cons p r ih =>
      intro h
      by_cases e : isTrip p = true
      · exact ⟨p, r, e, .refl _⟩
      · have : 1 ≤ ntr r := by simp [ntr, e] at h; omega
        obtain ⟨q, os, h1, h2⟩ := ih this
        exact ⟨q, p :: os, h1, (h2.cons p).trans (.swap _ _ _)⟩
  intro ps
  induction ps with
  | nil => intro h; simp [ntr] at h
  | cons p r ih =>
    intro h
    by_cases e : isTrip p = true
    · have : 1 ≤ ntr r := by simp [ntr, e] at h; omega
      obtain ⟨q, os, h1, h2⟩ := one this
      exact ⟨p, q, os, e, h1, h2.cons p⟩
    · have : 2 ≤ ntr r := by simp [ntr, e] at h; omega
      obtain ⟨q, q', os, h1, h2, h3⟩ := ih this
      exact ⟨q, q', p :: os, h1, h2, (h3.cons p).trans ((List.Perm.swap q p _).trans ((List.Perm.swap q' p _).cons q))⟩
theorem red_perm {k : Int} {ps qs : List Tree} (h : ps.Perm qs) (r : Red (.trip k ps)) : Red (.trip k qs) := by
  obtain ⟨a, b, c, d⟩ := r
  have hl := h.length_eq
  refine ⟨by omega, fun e p hp => b e p (h.mem_iff.mpr hp), fun e p hp => c (by omega) p (h.mem_iff.mpr hp), redL_iff.mpr fun p hp => redL_iff.mp d p (h.mem_iff.mpr hp)⟩
theorem ok_perm {k : Int} {ps qs : List Tree} (h : ps.Perm qs) (o : Ok (.trip k ps)) : Ok (.trip k qs) := by
  obtain ⟨a, b, d⟩ := o
  have hl := h.length_eq
  exact ⟨a, by omega, okL_iff.mpr fun p hp => okL_iff.mp d p (h.mem_iff.mpr hp)⟩
theorem fork_both : (∀ t, Ok t → Red t → (btns t).Nodup → Nest t ∨ Trade t) ∧ ∀ ps, OkL ps → RedL ps → (btnsL ps).Nodup → NestL ps ∨ ∃ p ∈ ps, Trade p := by
  refine tree_ind (fun n _ _ _ => .inl trivial) (fun k ps ih ok rd nd => ?_) (fun _ _ _ => .inl trivial) (fun p r h1 h2 ok rd nd => ?_)
  · rcases ih ok.2.2 rd.2.2.2 nd with h | ⟨p, hp, h⟩
    · by_cases e : ntr ps ≤ 1
      · exact .inl ⟨e, h⟩
      · right
        obtain ⟨p, q, os, hp, hq, hh⟩ := ntr_two (ps := ps) (by omega)
        exact Trade.same (trade_two (ok_perm hh ok) ((btnsL_perm hh).nodup_iff.mp nd) (red_perm hh rd) hp hq) fun L => trip_perm hh L
    · right
      have hh : ∃ os, ps.Perm (p :: os) := by
        obtain ⟨s, t, e⟩ := List.append_of_mem hp
        exact ⟨s ++ t, by rw [e]; exact List.perm_middle⟩
      obtain ⟨os, hh⟩ := hh
      exact Trade.same (trade_lift (ok_perm hh ok) ((btnsL_perm hh).nodup_iff.mp nd) h) fun L => trip_perm hh L
  · simp only [btnsL] at nd
    have n1 := List.nodup_append.mp nd
    rcases h1 ok.1 rd.1 n1.1 with h | h
    · rcases h2 ok.2 rd.2 n1.2.1 with h' | ⟨q, hq, h'⟩
      · exact .inl ⟨h, h'⟩
      · exact .inr ⟨q, by simp [hq], h'⟩
    · exact .inr ⟨p, by simp, h⟩
/-- a told tree is a nest or has a trade -/
theorem told_fork {t t' : Tree} (h : ToldOf t t') (nd : (btns t).Nodup) (hn : ¬ Nest t') : Trade t := by
  rcases fork_both.1 t' h.ok h.red (h.btns.nodup_iff.mpr nd) with q | q
  · exact absurd q hn
  · exact q.same fun L => (h.goes L).symm
/-- a nest has no trade -/
theorem nest_no_trade {t : Tree} (ok : Ok t) (hn : Nest t) : ¬ Trade t := fun h => by
  obtain ⟨L, q⟩ := trade_parts h (swz (rowsT t) (wts (rowsT t))) (pr (rowsT t)).1
  exact q (scale_nest ok hn L)
end K94

/-! K94Math3: events, all lots of some buttons. Plain Lean. -/
namespace K94
def mem (ns : List Int) : Lot := fun b => decide (b ∈ ns)
def noLot : Lot := fun _ => false
theorem mem_nil : mem [] = noLot := by
  funext b
  simp [mem, noLot]
def stp (L : Lot) (e : Bool × Int) : Lot := fun b => if b = e.2 then e.1 else L b
def sts (L : Lot) : List (Bool × Int) → List Lot
  | [] => []
  | e :: r => stp L e :: sts (stp L e) r
theorem sts_length (L : Lot) : ∀ es, (sts L es).length = es.length
  | [] => rfl
  | e :: r => by simp [sts, sts_length _ r]
theorem sts_append (L : Lot) : ∀ xs ys, sts L (xs ++ ys) = sts L xs ++ sts (xs.foldl stp L) ys
  | [], ys => rfl
  | e :: r, ys => by simp [sts, sts_append _ r ys]
theorem sts_snoc (L : Lot) (xs : List (Bool × Int)) (e : Bool × Int) : sts L (xs ++ [e]) = sts L xs ++ [stp (xs.foldl stp L) e] := by
  rw [sts_append]
  rfl
theorem sts_last (L : Lot) : ∀ es, es ≠ [] → (sts L es)[es.length - 1]? = some (es.foldl stp L)
  | [], h => absurd rfl h
  | [e], _ => rfl
  | e :: f :: r, _ => by
    have ih := sts_last (stp L e) (f :: r) (by simp)
    simp only [List.length_cons, Nat.add_sub_cancel] at ih ⊢
    show (stp L e :: sts (stp L e) (f :: r))[r.length + 1]? = _
    rw [List.getElem?_cons_succ]
    exact ih
def press (bs : List Int) : List (Bool × Int) := bs.map fun b => (true, b)
def flip (es : List (Bool × Int)) : List (Bool × Int) := es.map fun e => (!e.1, e.2)
theorem fold_press : ∀ (bs : List Int) (L : Lot) (b : Int), (press bs).foldl stp L b = (decide (b ∈ bs) || L b)
  | [], L, b => by simp [press]
  | c :: r, L, b => by
    have ih := fold_press r (stp L (true, c)) b
    have e : (press (c :: r)).foldl stp L = (press r).foldl stp (stp L (true, c)) := rfl
    rw [e, ih]
    by_cases h : b = c
    · subst h
      simp [stp]
    · simp [stp, h]
theorem press_mem (bs : List Int) : (press bs).foldl stp noLot = mem bs := by
  funext b
  rw [fold_press]
  simp [mem, noLot]
theorem flip_goes {t : Tree} {bs : List Int} (hb : ∀ b ∈ btns t, b ∈ bs) : ∀ (es : List (Bool × Int)) (L L' : Lot), (∀ b ∈ bs, L' b = !L b) → (sts L' (flip es)).map (fun M => goes M (con t)) = (sts L es).map fun M => !goes M t
  | [], _, _, _ => rfl
  | e :: r, L, L', h => by
    have h' : ∀ b ∈ bs, stp L' (!e.1, e.2) b = !stp L e b := fun b hm => by
      unfold stp
      by_cases c : b = e.2
      · simp [c]
      · simp [c, h b hm]
    have ih := flip_goes hb r (stp L e) (stp L' (!e.1, e.2)) h'
    show goes (stp L' (!e.1, e.2)) (con t) :: _ = (!goes (stp L e) t) :: _
    rw [con_goes, goes_congr (L' := stp L e) fun b hm => by rw [h' b (hb b hm)]; simp]
    exact congrArg _ ih
/-- the contrary tree tells the contrary, all buttons being pressed first -/
theorem turned {t : Tree} {bs : List Int} (hb : ∀ b ∈ btns t, b ∈ bs) (es : List (Bool × Int)) :
    ((sts noLot (press bs ++ flip es)).map fun M => goes M (con t)).drop bs.length = (sts noLot es).map fun M => !goes M t := by
  rw [sts_append, List.map_append, List.drop_append_of_le_length (by rw [List.length_map, sts_length]; simp [press]), List.drop_of_length_le (by rw [List.length_map, sts_length]; simp [press]), List.nil_append]
  refine flip_goes hb es _ _ fun b hm => ?_
  rw [press_mem]
  simp [mem, noLot, hm]

/-! ### all lots of some buttons -/
def grow (ls : List (List Int)) (b : Int) : List (List Int) := ls ++ ls.map (· ++ [b])
def lots (bs : List Int) : List (List Int) := bs.foldl grow [[]]
theorem lots_from (L : Lot) : ∀ (bs : List Int) (ls : List (List Int)) (x : List Int), x ∈ ls → x ++ bs.filter L ∈ bs.foldl grow ls
  | [], ls, x, h => by simpa using h
  | b :: r, ls, x, h => by
    rw [List.foldl_cons, List.filter_cons]
    by_cases e : L b = true
    · rw [if_pos e]
      have := lots_from L r (grow ls b) (x ++ [b]) (by simp [grow]; exact .inr h)
      simpa using this
    · rw [if_neg e]
      exact lots_from L r (grow ls b) x (by simp [grow]; exact .inl h)
theorem lots_has (L : Lot) (bs : List Int) : bs.filter L ∈ lots bs := by
  have := lots_from L bs [[]] [] (by simp)
  simpa [lots] using this
theorem lots_sub_from : ∀ (bs : List Int) (ls : List (List Int)) (S : List Int), (∀ x ∈ ls, ∀ b ∈ x, b ∈ S) → (∀ b ∈ bs, b ∈ S) → ∀ x ∈ bs.foldl grow ls, ∀ b ∈ x, b ∈ S
  | [], ls, S, h, _ => h
  | b :: r, ls, S, h, hb => by
    rw [List.foldl_cons]
    refine lots_sub_from r (grow ls b) S (fun x hx => ?_) fun c hc => hb c (by simp [hc])
    unfold grow at hx
    rcases List.mem_append.mp hx with hx | hx
    · exact h x hx
    · obtain ⟨y, hy, rfl⟩ := List.mem_map.mp hx
      intro c hc
      rcases List.mem_append.mp hc with hc | hc
      · exact h y hy c hc
      · have : c = b := by simpa using hc
        subst this
        exact hb c (by simp)
theorem lots_sub {bs x : List Int} (h : x ∈ lots bs) : ∀ b ∈ x, b ∈ bs := lots_sub_from bs [[]] bs (fun y hy b hb => by simp at hy; subst hy; cases hb) (fun b hb => hb) x h
theorem grow_len (ls : List (List Int)) (b : Int) : (grow ls b).length = 2 * ls.length := by
  unfold grow
  rw [List.length_append, List.length_map]
  omega
theorem lots_len_from : ∀ (bs : List Int) (ls : List (List Int)) (m : Nat), (∀ x ∈ ls, x.length ≤ m) → (bs.foldl grow ls).length = 2 ^ bs.length * ls.length ∧ ∀ x ∈ bs.foldl grow ls, x.length ≤ m + bs.length
  | [], ls, m, h => by simpa using h
  | b :: r, ls, m, h => by
    rw [List.foldl_cons]
    have ih := lots_len_from r (grow ls b) (m + 1) fun x hx => by
      unfold grow at hx
      rcases List.mem_append.mp hx with hx | hx
      · have := h x hx; omega
      · obtain ⟨y, hy, rfl⟩ := List.mem_map.mp hx
        have := h y hy
        rw [List.length_append]
        simp
        omega
    refine ⟨?_, fun x hx => ?_⟩
    · rw [ih.1, grow_len, List.length_cons, Nat.pow_succ, Nat.mul_assoc]
    · have := ih.2 x hx
      rw [List.length_cons]
      omega
/-- a lot that tells a tree from a scale of its buttons -/
theorem parted {t : Tree} {rows : List (Int × Int)} {bound : Int} {bs : List Int} (h : Trade t) (hb : ∀ b ∈ btns t, b ∈ bs) (hr : ∀ p ∈ rows, p.1 ∈ bs) :
    ∃ x ∈ lots bs, goes (mem x) t ≠ decide (bound ≤ sumw (mem x) rows) := by
  obtain ⟨L, q⟩ := trade_parts h rows bound
  refine ⟨bs.filter L, lots_has L bs, ?_⟩
  have e : ∀ b ∈ bs, mem (bs.filter L) b = L b := fun b hm => by
    simp [mem, hm]
  rw [goes_congr (L' := L) fun b hm => e b (hb b hm), sumw_congr (L' := L) fun p hp => e p.1 (hr p hp)]
  exact q
end K94

/-! K94Text: the program's defs by places, their scopes. -/
namespace K94
open PySem L2 PySem.Spec PyProof.Rows
def top (i : Nat) : Stmt := PySem.Challenge.pw_onescale_k94_whole_runs_of_nests_and_the.main.body.getD i (.Pass ⟨0, 0, 0, 0⟩)
abbrev s_is_trip : Stmt := top 8
theorem sc_is_trip : FnScope ["tree"] ["tree"] (defScope s_is_trip) := ⟨rfl, rfl, rfl, by decide +kernel, rfl, by decide +kernel, by decide +kernel⟩
abbrev s_buttons_in_order : Stmt := top 9
theorem sc_buttons_in_order : FnScope ["tree", "found", "part"] ["tree"] (defScope s_buttons_in_order) := ⟨rfl, rfl, rfl, by decide +kernel, rfl, by decide +kernel, by decide +kernel⟩
abbrev s_buttons_of : Stmt := top 10
theorem sc_buttons_of : FnScope ["tree"] ["tree"] (defScope s_buttons_of) := ⟨rfl, rfl, rfl, by decide +kernel, rfl, by decide +kernel, by decide +kernel⟩
abbrev s_goes : Stmt := top 13
theorem sc_goes : FnScope ["tree", "lot", "part"] ["tree", "lot"] (defScope s_goes) := ⟨rfl, rfl, rfl, by decide +kernel, rfl, by decide +kernel, by decide +kernel⟩
abbrev s_scale_goes : Stmt := top 15
theorem sc_scale_goes : FnScope ["scale", "lot", "rows", "bound", "button", "weight"] ["scale", "lot"] (defScope s_scale_goes) := ⟨rfl, rfl, rfl, by decide +kernel, rfl, by decide +kernel, by decide +kernel⟩
abbrev s_need_buttons : Stmt := top 17
theorem sc_need_buttons : FnScope ["events", "buttons", "word", "button"] ["events", "buttons"] (defScope s_need_buttons) := ⟨rfl, rfl, rfl, by decide +kernel, rfl, by decide +kernel, by decide +kernel⟩
abbrev s_pressed_lots : Stmt := top 18
theorem sc_pressed_lots : FnScope ["events", "pressed", "found", "word", "button"] ["events"] (defScope s_pressed_lots) := ⟨rfl, rfl, rfl, by decide +kernel, rfl, by decide +kernel, by decide +kernel⟩
abbrev s_run : Stmt := top 19
theorem sc_run : FnScope ["tree", "events", "lot"] ["tree", "events"] (defScope s_run) := ⟨rfl, rfl, rfl, by decide +kernel, rfl, by decide +kernel, by decide +kernel⟩
abbrev s_run_scale : Stmt := top 20
theorem sc_run_scale : FnScope ["scale", "events", "button", "weight", "lot"] ["scale", "events"] (defScope s_run_scale) := ⟨rfl, rfl, rfl, by decide +kernel, rfl, by decide +kernel, by decide +kernel⟩
abbrev s_contrary : Stmt := top 22
theorem sc_contrary : FnScope ["tree", "bound", "parts", "part"] ["tree"] (defScope s_contrary) := ⟨rfl, rfl, rfl, by decide +kernel, rfl, by decide +kernel, by decide +kernel⟩
abbrev s_least_button : Stmt := top 24
theorem sc_least_button : FnScope ["tree", "found"] ["tree"] (defScope s_least_button) := ⟨rfl, rfl, rfl, by decide +kernel, rfl, by decide +kernel, by decide +kernel⟩
abbrev s_is_like_trip : Stmt := top 25
theorem sc_is_like_trip : FnScope ["part", "bound", "many"] ["part", "bound", "many"] (defScope s_is_like_trip) := ⟨rfl, rfl, rfl, by decide +kernel, rfl, by decide +kernel, by decide +kernel⟩
abbrev s_told_trip : Stmt := top 26
theorem sc_told_trip : FnScope ["bound", "parts", "found", "part"] ["bound", "parts"] (defScope s_told_trip) := ⟨rfl, rfl, rfl, by decide +kernel, rfl, by decide +kernel, by decide +kernel⟩
abbrev s_told : Stmt := top 27
theorem sc_told : FnScope ["tree", "part"] ["tree"] (defScope s_told) := ⟨rfl, rfl, rfl, by decide +kernel, rfl, by decide +kernel, by decide +kernel⟩
abbrev s_own_buttons : Stmt := top 29
theorem sc_own_buttons : FnScope ["tree", "part"] ["tree"] (defScope s_own_buttons) := ⟨rfl, rfl, rfl, by decide +kernel, rfl, by decide +kernel, by decide +kernel⟩
abbrev s_own_trips : Stmt := top 30
theorem sc_own_trips : FnScope ["tree", "part"] ["tree"] (defScope s_own_trips) := ⟨rfl, rfl, rfl, by decide +kernel, rfl, by decide +kernel, by decide +kernel⟩
abbrev s_fork_from : Stmt := top 31
theorem sc_fork_from : FnScope ["tree", "way", "place", "part", "found"] ["tree", "way"] (defScope s_fork_from) := ⟨rfl, rfl, rfl, by decide +kernel, rfl, by decide +kernel, by decide +kernel⟩
abbrev s_level_rows : Stmt := top 32
theorem sc_level_rows : FnScope ["tree", "found", "rest", "inner"] ["tree"] (defScope s_level_rows) := ⟨rfl, rfl, rfl, by decide +kernel, rfl, by decide +kernel, by decide +kernel⟩
abbrev s_weight_over : Stmt := top 33
theorem sc_weight_over : FnScope ["k", "many", "a", "b"] ["k", "many", "a", "b"] (defScope s_weight_over) := ⟨rfl, rfl, rfl, by decide +kernel, rfl, by decide +kernel, by decide +kernel⟩
abbrev s_pairs_and_weights : Stmt := top 34
theorem sc_pairs_and_weights : FnScope ["rows", "k", "own", "pairs", "weights", "bound", "buttons", "a", "b", "many", "weight"] ["rows"] (defScope s_pairs_and_weights) := ⟨rfl, rfl, rfl, by decide +kernel, rfl, by decide +kernel, by decide +kernel⟩
abbrev s_swap_of : Stmt := top 49
theorem sc_swap_of : FnScope ["tree", "plain", "way", "base", "rest", "place", "others", "first", "second", "one", "other"] ["tree"] (defScope s_swap_of) := ⟨rfl, rfl, rfl, by decide +kernel, rfl, by decide +kernel, by decide +kernel⟩
abbrev s_fork : Stmt := top 51
theorem sc_fork : FnScope ["tree"] ["tree"] (defScope s_fork) := ⟨rfl, rfl, rfl, by decide +kernel, rfl, by decide +kernel, by decide +kernel⟩
abbrev s_is_nest : Stmt := top 52
theorem sc_is_nest : FnScope ["tree"] ["tree"] (defScope s_is_nest) := ⟨rfl, rfl, rfl, by decide +kernel, rfl, by decide +kernel, by decide +kernel⟩
abbrev s_need_nest : Stmt := top 53
theorem sc_need_nest : FnScope ["tree", "swap"] ["tree"] (defScope s_need_nest) := ⟨rfl, rfl, rfl, by decide +kernel, rfl, by decide +kernel, by decide +kernel⟩
abbrev s_levels : Stmt := top 54
theorem sc_levels : FnScope ["tree"] ["tree"] (defScope s_levels) := ⟨rfl, rfl, rfl, by decide +kernel, rfl, by decide +kernel, by decide +kernel⟩
abbrev s_scale_of : Stmt := top 55
theorem sc_scale_of : FnScope ["tree", "rows", "pairs", "weights", "found", "bound", "buttons", "weight", "button"] ["tree"] (defScope s_scale_of) := ⟨rfl, rfl, rfl, by decide +kernel, rfl, by decide +kernel, by decide +kernel⟩
abbrev s_l_deck : Stmt := top 57
theorem sc_l_deck : FnScope ["_law_script", "_law_cell", "_law_cells", "_law_stirred"] ["_law_script"] (defScope s_l_deck) := ⟨rfl, rfl, rfl, by decide +kernel, rfl, by decide +kernel, by decide +kernel⟩
abbrev s_l_draw : Stmt := top 58
theorem sc_l_draw : FnScope ["_law_deck_here", "_law_many", "_law_cell", "_law_found"] ["_law_deck_here", "_law_many"] (defScope s_l_draw) := ⟨rfl, rfl, rfl, by decide +kernel, rfl, by decide +kernel, by decide +kernel⟩
abbrev s_l_pick : Stmt := top 59
theorem sc_l_pick : FnScope ["_law_deck_here", "_law_items"] ["_law_deck_here", "_law_items"] (defScope s_l_pick) := ⟨rfl, rfl, rfl, by decide +kernel, rfl, by decide +kernel, by decide +kernel⟩
abbrev s_l_buttons : Stmt := top 60
theorem sc_l_buttons : FnScope ["_law_deck_here", "_law_many", "_law_most", "_law_every", "_law_turn"] ["_law_deck_here", "_law_many", "_law_most"] (defScope s_l_buttons) := ⟨rfl, rfl, rfl, by decide +kernel, rfl, by decide +kernel, by decide +kernel⟩
abbrev s_l_tree : Stmt := top 61
theorem sc_l_tree : FnScope ["_law_deck_here", "_law_buttons_here", "_law_deep", "_law_rest", "_law_parts", "_law_size", "_law_inner"] ["_law_deck_here", "_law_buttons_here", "_law_deep"] (defScope s_l_tree) := ⟨rfl, rfl, rfl, by decide +kernel, rfl, by decide +kernel, by decide +kernel⟩
abbrev s_l_nest : Stmt := top 62
theorem sc_l_nest : FnScope ["_law_deck_here", "_law_buttons_here", "_law_rest", "_law_inner", "_law_size", "_law_parts"] ["_law_deck_here", "_law_buttons_here"] (defScope s_l_nest) := ⟨rfl, rfl, rfl, by decide +kernel, rfl, by decide +kernel, by decide +kernel⟩
abbrev s_l_does : Stmt := top 63
theorem sc_l_does : FnScope ["_law_tree_here", "_law_lot", "_law_part"] ["_law_tree_here", "_law_lot"] (defScope s_l_does) := ⟨rfl, rfl, rfl, by decide +kernel, rfl, by decide +kernel, by decide +kernel⟩
abbrev s_l_weighs : Stmt := top 64
theorem sc_l_weighs : FnScope ["_law_scale_here", "_law_lot", "_law_button", "_law_weight"] ["_law_scale_here", "_law_lot"] (defScope s_l_weighs) := ⟨rfl, rfl, rfl, by decide +kernel, rfl, by decide +kernel, by decide +kernel⟩
abbrev s_l_scale : Stmt := top 66
theorem sc_l_scale : FnScope ["_law_deck_here", "_law_buttons_here", "_law_most", "_law_rows", "_law_whole", "_law_button", "_law_weight"] ["_law_deck_here", "_law_buttons_here", "_law_most"] (defScope s_l_scale) := ⟨rfl, rfl, rfl, by decide +kernel, rfl, by decide +kernel, by decide +kernel⟩
abbrev s_l_events : Stmt := top 67
theorem sc_l_events : FnScope ["_law_deck_here", "_law_buttons_here", "_law_many", "_law_found", "_law_turn"] ["_law_deck_here", "_law_buttons_here", "_law_many"] (defScope s_l_events) := ⟨rfl, rfl, rfl, by decide +kernel, rfl, by decide +kernel, by decide +kernel⟩
abbrev s_l_is_turned : Stmt := top 68
theorem sc_l_is_turned : FnScope ["_law_tree_here", "_law_buttons_here", "_law_events_here", "_law_turned", "_law_other", "_law_due", "_law_button", "_law_word", "_law_is_so"] ["_law_tree_here", "_law_buttons_here", "_law_events_here"] (defScope s_l_is_turned) := ⟨rfl, rfl, rfl, by decide +kernel, rfl, by decide +kernel, by decide +kernel⟩
abbrev s_l_is_parted : Stmt := top 69
theorem sc_l_is_parted : FnScope ["_law_tree_here", "_law_buttons_here", "_law_scale_here", "_law_lots", "_law_button", "_law_odd", "_law_events_here", "_law_lot"] ["_law_tree_here", "_law_buttons_here", "_law_scale_here"] (defScope s_l_is_parted) := ⟨rfl, rfl, rfl, by decide +kernel, rfl, by decide +kernel, by decide +kernel⟩
abbrev s_law : Stmt := top 70
theorem sc_law : FnScope ["_law_script", "_law_deck_here", "_law_turn", "_law_buttons_here", "_law_tree_here", "_law_events_here", "_law_cut", "_law_two"] ["_law_script"] (defScope s_law) := ⟨rfl, rfl, rfl, by decide +kernel, rfl, by decide +kernel, by decide +kernel⟩
/-- a def of the text where it stands behind the top -/
structure Df (K : PySem.W.Frag) (mg : Str → Option Value) (x : Str) (st : Stmt) : Prop where
  fn : ∃ fd, FunD K x x (defArgs st) (defBody st) (defScope st) [] [] (He.ga K x) fd
  gl : mg x = some (.ref (He.ga K x))
/-- what the top has left -/
structure Txt (K : PySem.W.Frag) (mg : Str → Option Value) : Prop where
  is_trip : Df K mg "is_trip" s_is_trip
  buttons_in_order : Df K mg "buttons_in_order" s_buttons_in_order
  buttons_of : Df K mg "buttons_of" s_buttons_of
  goes : Df K mg "goes" s_goes
  scale_goes : Df K mg "scale_goes" s_scale_goes
  need_buttons : Df K mg "need_buttons" s_need_buttons
  pressed_lots : Df K mg "pressed_lots" s_pressed_lots
  run : Df K mg "run" s_run
  run_scale : Df K mg "run_scale" s_run_scale
  contrary : Df K mg "contrary" s_contrary
  least_button : Df K mg "least_button" s_least_button
  is_like_trip : Df K mg "is_like_trip" s_is_like_trip
  told_trip : Df K mg "told_trip" s_told_trip
  told : Df K mg "told" s_told
  own_buttons : Df K mg "own_buttons" s_own_buttons
  own_trips : Df K mg "own_trips" s_own_trips
  fork_from : Df K mg "fork_from" s_fork_from
  level_rows : Df K mg "level_rows" s_level_rows
  weight_over : Df K mg "weight_over" s_weight_over
  pairs_and_weights : Df K mg "pairs_and_weights" s_pairs_and_weights
  swap_of : Df K mg "swap_of" s_swap_of
  fork : Df K mg "fork" s_fork
  is_nest : Df K mg "is_nest" s_is_nest
  need_nest : Df K mg "need_nest" s_need_nest
  levels : Df K mg "levels" s_levels
  scale_of : Df K mg "scale_of" s_scale_of
  l_deck : Df K mg "_law_deck" s_l_deck
  l_draw : Df K mg "_law_draw" s_l_draw
  l_pick : Df K mg "_law_pick" s_l_pick
  l_buttons : Df K mg "_law_buttons" s_l_buttons
  l_tree : Df K mg "_law_tree" s_l_tree
  l_nest : Df K mg "_law_nest" s_l_nest
  l_does : Df K mg "_law_does" s_l_does
  l_weighs : Df K mg "_law_weighs" s_l_weighs
  l_scale : Df K mg "_law_scale" s_l_scale
  l_events : Df K mg "_law_events" s_l_events
  l_is_turned : Df K mg "_law_is_turned" s_l_is_turned
  l_is_parted : Df K mg "_law_is_parted" s_l_is_parted
  law : Df K mg "law" s_law
  m_isinstance : mg "isinstance" = none
  m_tuple : mg "tuple" = none
  m_int : mg "int" = none
  m_len : mg "len" = none
  m_sorted : mg "sorted" = none
  m_sum : mg "sum" = none
  m_list : mg "list" = none
  m_reversed : mg "reversed" = none
  m_enumerate : mg "enumerate" = none
  m_max : mg "max" = none
  m_zip : mg "zip" = none
  m_abs : mg "abs" = none
  m_range : mg "range" = none
  m_min : mg "min" = none
  m_repr : mg "repr" = none
/-! ### the head's facts -/
def d_is_trip : He.DefD := ⟨("is_trip", none), "is_trip", "is_trip", defArgs s_is_trip, defBody s_is_trip, defScope s_is_trip, [], []⟩
def d_buttons_in_order : He.DefD := ⟨("buttons_in_order", none), "buttons_in_order", "buttons_in_order", defArgs s_buttons_in_order, defBody s_buttons_in_order, defScope s_buttons_in_order, [], []⟩
def d_buttons_of : He.DefD := ⟨("buttons_of", none), "buttons_of", "buttons_of", defArgs s_buttons_of, defBody s_buttons_of, defScope s_buttons_of, [], []⟩
def d_goes : He.DefD := ⟨("goes", none), "goes", "goes", defArgs s_goes, defBody s_goes, defScope s_goes, [], []⟩
def d_scale_goes : He.DefD := ⟨("scale_goes", none), "scale_goes", "scale_goes", defArgs s_scale_goes, defBody s_scale_goes, defScope s_scale_goes, [], []⟩
def d_need_buttons : He.DefD := ⟨("need_buttons", none), "need_buttons", "need_buttons", defArgs s_need_buttons, defBody s_need_buttons, defScope s_need_buttons, [], []⟩
def d_pressed_lots : He.DefD := ⟨("pressed_lots", none), "pressed_lots", "pressed_lots", defArgs s_pressed_lots, defBody s_pressed_lots, defScope s_pressed_lots, [], []⟩
def d_run : He.DefD := ⟨("run", none), "run", "run", defArgs s_run, defBody s_run, defScope s_run, [], []⟩
def d_run_scale : He.DefD := ⟨("run_scale", none), "run_scale", "run_scale", defArgs s_run_scale, defBody s_run_scale, defScope s_run_scale, [], []⟩
def d_contrary : He.DefD := ⟨("contrary", none), "contrary", "contrary", defArgs s_contrary, defBody s_contrary, defScope s_contrary, [], []⟩
def d_least_button : He.DefD := ⟨("least_button", none), "least_button", "least_button", defArgs s_least_button, defBody s_least_button, defScope s_least_button, [], []⟩
def d_is_like_trip : He.DefD := ⟨("is_like_trip", none), "is_like_trip", "is_like_trip", defArgs s_is_like_trip, defBody s_is_like_trip, defScope s_is_like_trip, [], []⟩
def d_told_trip : He.DefD := ⟨("told_trip", none), "told_trip", "told_trip", defArgs s_told_trip, defBody s_told_trip, defScope s_told_trip, [], []⟩
def d_told : He.DefD := ⟨("told", none), "told", "told", defArgs s_told, defBody s_told, defScope s_told, [], []⟩
def d_own_buttons : He.DefD := ⟨("own_buttons", none), "own_buttons", "own_buttons", defArgs s_own_buttons, defBody s_own_buttons, defScope s_own_buttons, [], []⟩
def d_own_trips : He.DefD := ⟨("own_trips", none), "own_trips", "own_trips", defArgs s_own_trips, defBody s_own_trips, defScope s_own_trips, [], []⟩
def d_fork_from : He.DefD := ⟨("fork_from", none), "fork_from", "fork_from", defArgs s_fork_from, defBody s_fork_from, defScope s_fork_from, [], []⟩
def d_level_rows : He.DefD := ⟨("level_rows", none), "level_rows", "level_rows", defArgs s_level_rows, defBody s_level_rows, defScope s_level_rows, [], []⟩
def d_weight_over : He.DefD := ⟨("weight_over", none), "weight_over", "weight_over", defArgs s_weight_over, defBody s_weight_over, defScope s_weight_over, [], []⟩
def d_pairs_and_weights : He.DefD := ⟨("pairs_and_weights", none), "pairs_and_weights", "pairs_and_weights", defArgs s_pairs_and_weights, defBody s_pairs_and_weights, defScope s_pairs_and_weights, [], []⟩
def d_swap_of : He.DefD := ⟨("swap_of", none), "swap_of", "swap_of", defArgs s_swap_of, defBody s_swap_of, defScope s_swap_of, [], []⟩
def d_fork : He.DefD := ⟨("fork", none), "fork", "fork", defArgs s_fork, defBody s_fork, defScope s_fork, [], []⟩
def d_is_nest : He.DefD := ⟨("is_nest", none), "is_nest", "is_nest", defArgs s_is_nest, defBody s_is_nest, defScope s_is_nest, [], []⟩
def d_need_nest : He.DefD := ⟨("need_nest", none), "need_nest", "need_nest", defArgs s_need_nest, defBody s_need_nest, defScope s_need_nest, [], []⟩
def d_levels : He.DefD := ⟨("levels", none), "levels", "levels", defArgs s_levels, defBody s_levels, defScope s_levels, [], []⟩
def d_scale_of : He.DefD := ⟨("scale_of", none), "scale_of", "scale_of", defArgs s_scale_of, defBody s_scale_of, defScope s_scale_of, [], []⟩
def d_l_deck : He.DefD := ⟨("_law_deck", none), "_law_deck", "_law_deck", defArgs s_l_deck, defBody s_l_deck, defScope s_l_deck, [], []⟩
def d_l_draw : He.DefD := ⟨("_law_draw", none), "_law_draw", "_law_draw", defArgs s_l_draw, defBody s_l_draw, defScope s_l_draw, [], []⟩
def d_l_pick : He.DefD := ⟨("_law_pick", none), "_law_pick", "_law_pick", defArgs s_l_pick, defBody s_l_pick, defScope s_l_pick, [], []⟩
def d_l_buttons : He.DefD := ⟨("_law_buttons", none), "_law_buttons", "_law_buttons", defArgs s_l_buttons, defBody s_l_buttons, defScope s_l_buttons, [], []⟩
def d_l_tree : He.DefD := ⟨("_law_tree", none), "_law_tree", "_law_tree", defArgs s_l_tree, defBody s_l_tree, defScope s_l_tree, [], []⟩
def d_l_nest : He.DefD := ⟨("_law_nest", none), "_law_nest", "_law_nest", defArgs s_l_nest, defBody s_l_nest, defScope s_l_nest, [], []⟩
def d_l_does : He.DefD := ⟨("_law_does", none), "_law_does", "_law_does", defArgs s_l_does, defBody s_l_does, defScope s_l_does, [], []⟩
def d_l_weighs : He.DefD := ⟨("_law_weighs", none), "_law_weighs", "_law_weighs", defArgs s_l_weighs, defBody s_l_weighs, defScope s_l_weighs, [], []⟩
def d_l_scale : He.DefD := ⟨("_law_scale", none), "_law_scale", "_law_scale", defArgs s_l_scale, defBody s_l_scale, defScope s_l_scale, [], []⟩
def d_l_events : He.DefD := ⟨("_law_events", none), "_law_events", "_law_events", defArgs s_l_events, defBody s_l_events, defScope s_l_events, [], []⟩
def d_l_is_turned : He.DefD := ⟨("_law_is_turned", none), "_law_is_turned", "_law_is_turned", defArgs s_l_is_turned, defBody s_l_is_turned, defScope s_l_is_turned, [], []⟩
def d_l_is_parted : He.DefD := ⟨("_law_is_parted", none), "_law_is_parted", "_law_is_parted", defArgs s_l_is_parted, defBody s_l_is_parted, defScope s_l_is_parted, [], []⟩
def d_law : He.DefD := ⟨("law", none), "law", "law", defArgs s_law, defBody s_law, defScope s_law, [], []⟩
def fns : List He.DefD := [d_is_trip, d_buttons_in_order, d_buttons_of, d_goes, d_scale_goes, d_need_buttons, d_pressed_lots, d_run, d_run_scale, d_contrary, d_least_button, d_is_like_trip, d_told_trip, d_told, d_own_buttons, d_own_trips, d_fork_from, d_level_rows, d_weight_over, d_pairs_and_weights, d_swap_of, d_fork, d_is_nest, d_need_nest, d_levels, d_scale_of, d_l_deck, d_l_draw, d_l_pick, d_l_buttons, d_l_tree, d_l_nest, d_l_does, d_l_weighs, d_l_scale, d_l_events, d_l_is_turned, d_l_is_parted, d_law]
def fas : List He.Fa := [.glo "is_trip", .glo "buttons_in_order", .glo "buttons_of", .glo "goes", .glo "scale_goes", .glo "need_buttons", .glo "pressed_lots", .glo "run", .glo "run_scale", .glo "contrary", .glo "least_button", .glo "is_like_trip", .glo "told_trip", .glo "told", .glo "own_buttons", .glo "own_trips", .glo "fork_from", .glo "level_rows", .glo "weight_over", .glo "pairs_and_weights", .glo "swap_of", .glo "fork", .glo "is_nest", .glo "need_nest", .glo "levels", .glo "scale_of", .glo "_law_deck", .glo "_law_draw", .glo "_law_pick", .glo "_law_buttons", .glo "_law_tree", .glo "_law_nest", .glo "_law_does", .glo "_law_weighs", .glo "_law_scale", .glo "_law_events", .glo "_law_is_turned", .glo "_law_is_parted", .glo "law", .free "isinstance", .free "tuple", .free "int", .free "len", .free "sorted", .free "sum", .free "list", .free "reversed", .free "enumerate", .free "max", .free "zip", .free "abs", .free "range", .free "min", .free "repr"]
theorem txt_of {K : PySem.W.Frag} {h : Heap} {mg : Str → Option Value} (X : K.In h) (G : h.Ns mainGlobals mg) (c : He.SaysD fas fns K) : Txt K mg where
  is_trip := ⟨c.def_ 0 (d := d_is_trip) rfl, He.glo_ok X G (c.fact 0 (f := .glo "is_trip") rfl)⟩
  buttons_in_order := ⟨c.def_ 1 (d := d_buttons_in_order) rfl, He.glo_ok X G (c.fact 1 (f := .glo "buttons_in_order") rfl)⟩
  buttons_of := ⟨c.def_ 2 (d := d_buttons_of) rfl, He.glo_ok X G (c.fact 2 (f := .glo "buttons_of") rfl)⟩
  goes := ⟨c.def_ 3 (d := d_goes) rfl, He.glo_ok X G (c.fact 3 (f := .glo "goes") rfl)⟩
  scale_goes := ⟨c.def_ 4 (d := d_scale_goes) rfl, He.glo_ok X G (c.fact 4 (f := .glo "scale_goes") rfl)⟩
  need_buttons := ⟨c.def_ 5 (d := d_need_buttons) rfl, He.glo_ok X G (c.fact 5 (f := .glo "need_buttons") rfl)⟩
  pressed_lots := ⟨c.def_ 6 (d := d_pressed_lots) rfl, He.glo_ok X G (c.fact 6 (f := .glo "pressed_lots") rfl)⟩
  run := ⟨c.def_ 7 (d := d_run) rfl, He.glo_ok X G (c.fact 7 (f := .glo "run") rfl)⟩
  run_scale := ⟨c.def_ 8 (d := d_run_scale) rfl, He.glo_ok X G (c.fact 8 (f := .glo "run_scale") rfl)⟩
  contrary := ⟨c.def_ 9 (d := d_contrary) rfl, He.glo_ok X G (c.fact 9 (f := .glo "contrary") rfl)⟩
  least_button := ⟨c.def_ 10 (d := d_least_button) rfl, He.glo_ok X G (c.fact 10 (f := .glo "least_button") rfl)⟩
  is_like_trip := ⟨c.def_ 11 (d := d_is_like_trip) rfl, He.glo_ok X G (c.fact 11 (f := .glo "is_like_trip") rfl)⟩
  told_trip := ⟨c.def_ 12 (d := d_told_trip) rfl, He.glo_ok X G (c.fact 12 (f := .glo "told_trip") rfl)⟩
  told := ⟨c.def_ 13 (d := d_told) rfl, He.glo_ok X G (c.fact 13 (f := .glo "told") rfl)⟩
  own_buttons := ⟨c.def_ 14 (d := d_own_buttons) rfl, He.glo_ok X G (c.fact 14 (f := .glo "own_buttons") rfl)⟩
  own_trips := ⟨c.def_ 15 (d := d_own_trips) rfl, He.glo_ok X G (c.fact 15 (f := .glo "own_trips") rfl)⟩
  fork_from := ⟨c.def_ 16 (d := d_fork_from) rfl, He.glo_ok X G (c.fact 16 (f := .glo "fork_from") rfl)⟩
  level_rows := ⟨c.def_ 17 (d := d_level_rows) rfl, He.glo_ok X G (c.fact 17 (f := .glo "level_rows") rfl)⟩
  weight_over := ⟨c.def_ 18 (d := d_weight_over) rfl, He.glo_ok X G (c.fact 18 (f := .glo "weight_over") rfl)⟩
  pairs_and_weights := ⟨c.def_ 19 (d := d_pairs_and_weights) rfl, He.glo_ok X G (c.fact 19 (f := .glo "pairs_and_weights") rfl)⟩
  swap_of := ⟨c.def_ 20 (d := d_swap_of) rfl, He.glo_ok X G (c.fact 20 (f := .glo "swap_of") rfl)⟩
  fork := ⟨c.def_ 21 (d := d_fork) rfl, He.glo_ok X G (c.fact 21 (f := .glo "fork") rfl)⟩
  is_nest := ⟨c.def_ 22 (d := d_is_nest) rfl, He.glo_ok X G (c.fact 22 (f := .glo "is_nest") rfl)⟩
  need_nest := ⟨c.def_ 23 (d := d_need_nest) rfl, He.glo_ok X G (c.fact 23 (f := .glo "need_nest") rfl)⟩
  levels := ⟨c.def_ 24 (d := d_levels) rfl, He.glo_ok X G (c.fact 24 (f := .glo "levels") rfl)⟩
  scale_of := ⟨c.def_ 25 (d := d_scale_of) rfl, He.glo_ok X G (c.fact 25 (f := .glo "scale_of") rfl)⟩
  l_deck := ⟨c.def_ 26 (d := d_l_deck) rfl, He.glo_ok X G (c.fact 26 (f := .glo "_law_deck") rfl)⟩
  l_draw := ⟨c.def_ 27 (d := d_l_draw) rfl, He.glo_ok X G (c.fact 27 (f := .glo "_law_draw") rfl)⟩
  l_pick := ⟨c.def_ 28 (d := d_l_pick) rfl, He.glo_ok X G (c.fact 28 (f := .glo "_law_pick") rfl)⟩
  l_buttons := ⟨c.def_ 29 (d := d_l_buttons) rfl, He.glo_ok X G (c.fact 29 (f := .glo "_law_buttons") rfl)⟩
  l_tree := ⟨c.def_ 30 (d := d_l_tree) rfl, He.glo_ok X G (c.fact 30 (f := .glo "_law_tree") rfl)⟩
  l_nest := ⟨c.def_ 31 (d := d_l_nest) rfl, He.glo_ok X G (c.fact 31 (f := .glo "_law_nest") rfl)⟩
  l_does := ⟨c.def_ 32 (d := d_l_does) rfl, He.glo_ok X G (c.fact 32 (f := .glo "_law_does") rfl)⟩
  l_weighs := ⟨c.def_ 33 (d := d_l_weighs) rfl, He.glo_ok X G (c.fact 33 (f := .glo "_law_weighs") rfl)⟩
  l_scale := ⟨c.def_ 34 (d := d_l_scale) rfl, He.glo_ok X G (c.fact 34 (f := .glo "_law_scale") rfl)⟩
  l_events := ⟨c.def_ 35 (d := d_l_events) rfl, He.glo_ok X G (c.fact 35 (f := .glo "_law_events") rfl)⟩
  l_is_turned := ⟨c.def_ 36 (d := d_l_is_turned) rfl, He.glo_ok X G (c.fact 36 (f := .glo "_law_is_turned") rfl)⟩
  l_is_parted := ⟨c.def_ 37 (d := d_l_is_parted) rfl, He.glo_ok X G (c.fact 37 (f := .glo "_law_is_parted") rfl)⟩
  law := ⟨c.def_ 38 (d := d_law) rfl, He.glo_ok X G (c.fact 38 (f := .glo "law") rfl)⟩
  m_isinstance := He.free_ok X G (c.fact 39 (f := .free "isinstance") rfl)
  m_tuple := He.free_ok X G (c.fact 40 (f := .free "tuple") rfl)
  m_int := He.free_ok X G (c.fact 41 (f := .free "int") rfl)
  m_len := He.free_ok X G (c.fact 42 (f := .free "len") rfl)
  m_sorted := He.free_ok X G (c.fact 43 (f := .free "sorted") rfl)
  m_sum := He.free_ok X G (c.fact 44 (f := .free "sum") rfl)
  m_list := He.free_ok X G (c.fact 45 (f := .free "list") rfl)
  m_reversed := He.free_ok X G (c.fact 46 (f := .free "reversed") rfl)
  m_enumerate := He.free_ok X G (c.fact 47 (f := .free "enumerate") rfl)
  m_max := He.free_ok X G (c.fact 48 (f := .free "max") rfl)
  m_zip := He.free_ok X G (c.fact 49 (f := .free "zip") rfl)
  m_abs := He.free_ok X G (c.fact 50 (f := .free "abs") rfl)
  m_range := He.free_ok X G (c.fact 51 (f := .free "range") rfl)
  m_min := He.free_ok X G (c.fact 52 (f := .free "min") rfl)
  m_repr := He.free_ok X G (c.fact 53 (f := .free "repr") rfl)
end K94

/-! K94Head: the run of the top, in the kernel. -/
namespace K94
open PySem L2 PySem.Spec PyProof.Rows
abbrev R : PySem.W.OpenRow := PySem.W.OpenLaw.row PySem.Challenge.rw_onescale_k94_whole_runs_of_nests_and_the
abbrev hk : PySem.W.Hook := He.hookD 4 fas fns
def ob (s : PySem.W.SharedT) : He.AlD := He.obsDG 4 fas fns (HandSHeadRun.getT s)
theorem ob_eq (s : PySem.W.SharedT) : ob s = hk.obs s.abs := He.obsDG_eq (HandSHeadRun.getT_eq s)
def loose0 : List PySem.Str := ["TripError", "NoPart", "NoButton", "NoNest", "Unfit", "is_integer", "is_trip", "buttons_in_order", "buttons_of", "part_at", "goes", "scale_goes", "need_buttons", "pressed_lots", "run"]
def loose1 : List PySem.Str := ["run_scale", "contrary", "least_button", "is_like_trip", "told_trip", "told", "own_buttons", "own_trips", "fork_from", "level_rows", "weight_over", "pairs_and_weights", "lot_without", "thinned", "in_order"]
def loose2 : List PySem.Str := ["least_in", "pressed", "exchanged_in", "is_one_of", "is_all_of", "turned_swap", "swap_of_two", "swap_of_mixed", "swap_at", "swap_of", "fork", "is_nest", "need_nest", "levels", "scale_of"]
def loose3 : List PySem.Str := ["_law_deck", "_law_draw", "_law_pick", "_law_buttons", "_law_tree", "_law_nest", "_law_does", "_law_weighs", "_law_owned", "_law_scale", "_law_events", "_law_is_turned", "_law_is_parted"]
def loose : List PySem.Str := loose0 ++ loose1 ++ loose2 ++ loose3
theorem head_run (w : World) : HandSHeadRun.RunEq R (PySem.W.view R.prog [70]) hk ob 3000 loose w := by
  intro os
  kernel_rfl
end K94

/-! K94Rules: rules that the layer lacks; a def's promise by ia name. -/
namespace K94
open PySem L2 PySem.Spec PyProof.Rows

/-! ### a def's promise, by ia name -/
structure Pr (P : Program) (w : World) (K : PySem.W.Frag) (mg : Str → Option Value) (base : Heap) (x : Str) (ps : List Str) (k : Nat) (sp : Sp) : Prop where
  ex : ∃ fd, FnOk P w K mg base CX0 k (He.ga K x) fd ps sp ∧ Binds K fd ps []
  kp : PySem.W.keepIn K (.ref (He.ga K x)) = true
  gl : mg x = some (.ref (He.ga K x))
section
variable {mg : Str → Option Value} {K : PySem.W.Frag} {P : Program} {w : World} {base : Heap}
theorem Pr.mono {x : Str} {ps : List Str} {j k : Nat} {sp : Sp} (G : Pr P w K mg base x ps j sp) (h : j ≤ k) : Pr P w K mg base x ps k sp := by
  obtain ⟨⟨fd, F, b⟩, kp, gl⟩ := G
  exact ⟨⟨fd, F.mono h, b⟩, kp, gl⟩
theorem Pr.imp {x : Str} {ps : List Str} {k : Nat} {sp sp' : Sp} (G : Pr P w K mg base x ps k sp) (h : ∀ vs H Q E, sp' vs H Q E → sp vs H Q E) : Pr P w K mg base x ps k sp' := by
  obtain ⟨⟨fd, F, b⟩, kp, gl⟩ := G
  exact ⟨⟨fd, F.imp h, b⟩, kp, gl⟩
/-- from the body -/
theorem Df.pr {x : Str} {st : Stmt} {N ps : List Str} {k : Nat} {sp : Sp} (D : Df K mg x st) (S : FnScope N ps (defScope st))
    (hb : ∀ (kV doc pm : Value) (an : Option Addr) (cdv ct : Value) (us : List Value), us.length = ps.length → bindArgs (PySem.W.fnOf x x (defArgs st) (defBody st) (defScope st) .none kV doc pm an cdv ct) ⟨us, []⟩ = pure (ps.zip us))
    (len : ∀ vs H Q E, sp vs H Q E → vs.length = ps.length)
    (hbody : ∀ (cdv : Value) (A : Around) (outer : List Env) (s : Shared) (H : Hp) (vs : List V) (Q : VK) (E : XK), Room k (A.deeper (envOfC x (defScope st) s.heap.objs.size (He.ga K x) cdv)) → sp vs H Q E →
      ∃ t, PSs (cxOf CX0 P w K mg base N x (defScope st) (He.ga K x) cdv A outer s H E).nox (defBody st) t ∧ t { nx := fun _ H' => Q .non H', rt := Q } (start N vs) H) : Pr P w K mg base x ps (k + 1) sp := by
  obtain ⟨⟨fd, F⟩, gl⟩ := D
  refine ⟨⟨fd, F.ok S len fun cdv A outer s H vs Q E hr h => ?_, F.bindsN hb⟩, F.kp, gl⟩
  obtain ⟨t, h1, h2⟩ := hbody cdv A outer s H vs Q E hr h
  exact ⟨t, h1.nox, h2⟩
/-- a promise that asks for what can not be -/
theorem Df.none {x : Str} {st : Stmt} {ps : List Str} {k : Nat} {sp : Sp} (D : Df K mg x st)
    (hb : ∀ (kV doc pm : Value) (an : Option Addr) (cdv ct : Value) (us : List Value), us.length = ps.length → bindArgs (PySem.W.fnOf x x (defArgs st) (defBody st) (defScope st) .none kV doc pm an cdv ct) ⟨us, []⟩ = pure (ps.zip us))
    (no : ∀ vs H Q E, ¬ sp vs H Q E) : Pr P w K mg base x ps k sp := by
  obtain ⟨⟨fd, F⟩, gl⟩ := D
  exact ⟨⟨fd, ⟨fun vs H Q E h => absurd h (no vs H Q E), fun A outer s H args us vs Q E _ _ _ _ h => absurd h (no vs H Q E)⟩, F.bindsN hb⟩, F.kp, gl⟩
end
section
variable {X : Cx} {x : Str} {ps : List Str} {k : Nat} {sp : Sp} {p pos : Pos} {e : Expr} {es : List Expr} {t : TA}
theorem pe_pr (G : Pr X.prog X.w X.K X.mg X.base x ps k sp) (hr : Room k X.A) (ha : PA X (e :: es) t) (hg : Gl X x := by rfl)
    (hdb : (x == ("__debug__" : Str)) = false := by decide) (he : starEach (e :: es) X.env = (false, eval e X.env) :: starEach es X.env := by rfl) (hpl : (backTo pos (starEach es X.env)).any (·.1) = false := by rfl) :
    PE X (.Call (.Name x p) (e :: es) [] pos) (tCall sp [] E0 t) := by
  obtain ⟨⟨fd, F, b⟩, kp, gl⟩ := G
  exact pe_call F hr hg gl kp b .nil pass0 ha hdb he hpl
end

/-! ### heaps -/
theorem same_upd {H : Hp} {p : Addr} (h : H p = none) (o : HO) : Same H (upd H p o) := fun b u e => by
  rw [upd_ne (ne_of_none e h)]
  exact e
/-- an object that came behind H0 is written: what stood at H0 stays -/
theorem _root_.L2.Same.upd {H0 H : Hp} {p : Addr} (s : Same H0 H) (h : H0 p = none) (o : HO) : Same H0 (upd H p o) := fun b u e => by
  rw [upd_ne (ne_of_none e h)]
  exact s b u e
theorem _root_.L2.Same.seqT {K : PySem.W.Frag} {H H' : Hp} {a : Addr} {xs : List V} (e : Same H H') (h : SqT K H a xs) : SqT K H' a xs := by
  rcases h with (h | ⟨o, h⟩) | h
  · exact .inl (.inl (e _ _ h))
  · exact .inl (.inr ⟨o, e _ _ h⟩)
  · exact .inr h

/-! ### list.extend of a tuple -/
theorem extend_list_tuple (l : Addr) (items : Array Value) (n : Nat) (b : Addr) (items2 : Array Value) (n2 : Nat) (dd : Option Addr) (sl : Array (Option Value)) (hs0 : ¬(!items.isEmpty && Builtin.List.listTooLong (items.size + items2.size)) = true) (hs1 : items.size ≤ sizeLine) (hs2 : items.size + items2.size ≤ sizeLine + 1) :
    Meets (Builtin.«list.extend» ⟨[.ref l, .ref b], []⟩) (fun _ R s => s.heap.get? l = some { cls := .type "list", dict := none, data := .seq items n, slots := #[] } ∧ s.heap.get? b = some { cls := .type "tuple", dict := dd, data := .seq items2 n2, slots := sl } ∧ R (.ok (.ret Value.none)) { s with heap := s.heap.update l (Obj.mapSeq fun x => x ++ items2), toks := s.toks }) :=
  .of_wp fun prog w A R s h => by
    obtain ⟨hp, g, d, tk, os⟩ := s
    obtain ⟨lAt, hb, h⟩ := h
    have f1 := AutoSeq1.idx_int
    have f2 := AutoSeq1.sub_tuple_tuple
    have f3 := AutoSeq1.sub_list_list
    have f4 := AutoSeq1.sub_tuple_list
    have f5 := AutoSeq1.sub_list_tuple
    have hz' : (items ++ items2).size ≤ sizeLine + 1 := by
      rw [Array.size_append]
      exact hs2
    wp_walk using (wpAny_updateSeq lAt rfl (hz := hs1) (_hz' := hz')), AutoSeq1.wpAny_loadPart' lAt, AutoSeq1.wpAny_loadPart' hb
    exact ⟨_, rfl, h⟩
def rExtendT (K : PySem.W.Frag) : V → List V → Hp → VK → Prop := fun x vs H Q => ∃ l b xs zs, x = .ref l ∧ vs = [.ref b] ∧ H l = some (.lst xs) ∧ SqT K H b zs ∧ xs.length + zs.length ≤ sizeLine ∧ Q .non (upd H l (.lst (xs ++ zs)))
theorem mt_extendT {X : Cx} : MtM X "list.extend" (rExtendT X.K) := by
  intro pins s σ H x vs v us Q I rx rvs h
  obtain ⟨l, b, xs, zs, rfl, rfl, atL, atT, hz, q⟩ := h
  cases rx
  obtain ⟨u, rfl, ru⟩ := rvs.one
  cases ru
  obtain ⟨z, ia, n, r, lAt, e⟩ := I.lstM atL
  obtain ⟨ib, r2, ⟨o2, e2, c2, n2, d2⟩, z2⟩ := I.tuple atT
  have hl2 := r2.length
  obtain ⟨cls, dd, dat, sl⟩ := o2
  cases c2
  cases d2
  have small : ia.toArray.size + ib.toArray.size ≤ sizeLine := by
    rw [List.size_toArray, List.size_toArray]
    omega
  have far : ¬ (!ia.toArray.isEmpty && Builtin.List.listTooLong (ia.toArray.size + ib.toArray.size)) = true := by
    rw [notLongL small, Bool.and_false]
    decide
  refine call_meets F.slot_list_extend ⟨_, e, rfl⟩ F.entry_list_extend (F.args_list_extend_2 _ _) (extend_list_tuple l ia.toArray n b ib.toArray n2 dd sl far (by rw [List.size_toArray]; omega) (by omega)) ⟨e, e2, ?_⟩
  refine ⟨.non, _, I.lset (its' := ia ++ ib) atL e (by simp) (r.append r2) ?_, rfl, q⟩
  rw [List.length_append]
  exact hz

/-! ### isinstance(x, T), T a built-in class: what ia reading asks -/
theorem isi_of {K : PySem.W.Frag} {H : Hp} {Q : VK} {x : V} {S T : String} {b : Bool} (h : TyX K H x (.type S)) (hk : kitB S T = some b) (q : Q (.bl b) H) : rIsi K [x, .ty T] H Q :=
  ⟨x, .ty T, .type S, .type T, b, rfl, .ty T, h, kit_ty hk, q⟩
end K94

/-! K94Rules2: sorted by a def of the text. -/
namespace K94
open PySem L2 PySem.Spec PyProof.Rows

theorem vals_perm {us us' : List Value} (h : us'.Perm us) : ∀ {ys : List V}, Vals ys us → ∃ zs, zs.Perm ys ∧ Vals zs us' := by
  induction h with
  | nil => intro ys r; exact ⟨ys, .refl _, r⟩
  | cons x _ ih =>
    intro ys r
    cases r with
    | cons r t =>
      obtain ⟨zs, p, q⟩ := ih t
      exact ⟨_ :: zs, p.cons _, .cons r q⟩
  | swap x y l =>
    intro ys r
    cases r with
    | cons r t =>
      cases t with
      | cons r2 t => exact ⟨_, List.Perm.swap _ _ _, .cons r2 (.cons r t)⟩
  | trans _ _ ih1 ih2 =>
    intro ys r
    obtain ⟨zs, p, q⟩ := ih2 r
    obtain ⟨zs2, p2, q2⟩ := ih1 q
    exact ⟨zs2, p2.trans p, q2⟩
theorem vals_mem {ys : List V} {us : List Value} (h : Vals ys us) : ∀ {j : Nat} {u : Value}, us[j]? = some u → ∃ y, y ∈ ys ∧ RelV y u := by
  induction h with
  | nil => intro j u e; simp at e
  | cons r t ih =>
    intro j u e
    cases j with
    | zero =>
      simp at e
      subst e
      exact ⟨_, by simp, r⟩
    | succ j =>
      obtain ⟨y, h1, h2⟩ := ih (j := j) (u := u) (by simpa using e)
      exact ⟨y, by simp [h1], h2⟩
theorem sortVals_perm (κ : PyProof.Rows.KeyKind) {ks vs : List Value} (hl : ks.length = vs.length) : (PySem.W.sortVals κ false ks vs).Perm vs := by
  unfold PySem.W.sortVals
  have h1 := List.mergeSort_perm (ks.zip vs) (PySem.W.sortLe κ.toKeyOrd false fun p : Keyed => PySem.W.keyD κ p.1)
  have h2 := h1.map Prod.snd
  have h3 : (ks.zip vs).map Prod.snd = vs := by rw [List.map_snd_zip] <;> omega
  rw [h3] at h2
  exact h2
def IntV (v : Value) : Prop := ∃ i t, v = .int i t
/-- sorted(xs, key=f), f a def of the text that gives ints and lays nothing -/
def rSortedBy (K : PySem.W.Frag) (sp : Sp) (f : Addr) : List V → List V → Hp → VK → Prop := fun vs zs H Q => ∃ (a : Addr) (ys : List V), vs = [.ref a] ∧ zs = [.ref f] ∧ SqL K H a ys ∧
  (∀ y ∈ ys, sp [y] H (fun v H' => (∃ i, v = .int i) ∧ H' = H) E0) ∧ ∀ (ws : List V) (p : Addr), ws.Perm ys → H p = none → Q (.ref p) (upd H p (.lst ws))
section
variable {X : Cx} {x : Str} {ps : List Str} {k : Nat} {sp : Sp}
theorem pe_fn {p : Pos} (G : Pr X.prog X.w X.K X.mg X.base x ps k sp) (hg : Gl X x := by rfl) (hd : (x == ("__debug__" : Str)) = false := by decide) : PE X (.Name x p) (tC (.ref (He.ga X.K x))) := pe_glob hg G.gl rfl hd
/-- one key -/
theorem key_call {pins : List (Addr × Obj)} {σ : L2.St} {H : Hp} {s : Shared} {fd : FuncData} {f : Addr} {y : V} {u : Value} (F : FnOk X.prog X.w X.K X.mg X.base CX0 k f fd ps sp) (b : Binds X.K fd ps []) (hr : Room (k + 2) X.A)
    (I : Inv X pins σ H s) (r : RelV y u) (h : sp [y] H (fun v H' => (∃ i, v = .int i) ∧ H' = H) E0) {E : Value → Shared → Prop} :
    wpAny (model X.prog X.w) X.A.in1.in1 (call (.ref f) [u]) (fun v s' => IntV v ∧ Inv X pins σ H s' ∧ ∀ c o, s.heap.get? c = some o → H c = none → c ∉ frs X.stack → s'.heap.get? c = some o) E s := by
  have r2 : Vals [y] [u] := .cons r .nil
  have hl : ([u] ++ []).length = ps.length := by
    have := F.len _ _ _ _ h
    simpa using this
  refine wpAny_call (codeAny_mono (F.run X.A.in1.in1 X.stack s H ⟨[u], []⟩ [u] [y] _ E0 hr.in1.in1 I.env0.in1.in1 (b s [u] I.kIn hl) r2 h) fun q s' hq => ?_)
  cases q with
  | error e => exact hq.elim
  | ok fl =>
    cases fl with
    | ret v =>
      obtain ⟨w, H', os, bare, un, hok, rv, ⟨i, ei⟩, eH⟩ := hq
      subst eH
      subst ei
      obtain ⟨t, et⟩ := rv
      exact ⟨⟨i, t, et⟩, I.call' os un hok bare (fun _ z => nomatch z), fun c o e n hf => un.keep c o e n hf (by simp)⟩
    | next => exact hq.elim
    | brk => exact hq.elim
    | cont => exact hq.elim
theorem not_frame {pins : List (Addr × Obj)} {σ : L2.St} {H : Hp} {s : Shared} {c : Addr} (I : Inv X pins σ H s) (h : s.heap.objs.size ≤ c) : c ∉ frs X.stack := fun z => by
  rcases List.mem_cons.mp (I.stkSub c z) with e | e
  · have := I.lt
    rw [e] at h
    exact absurd (Nat.lt_of_lt_of_le this h) (Nat.lt_irrefl _)
  · exact I.nofs h e
/-- the keys, one by one, then the sort -/
theorem keys_rest {pins : List (Addr × Obj)} {σ : L2.St} {H : Hp} {s : Shared} {fd : FuncData} {f D kS : Addr} {e1 : Nat} {ys : List V} {vs : List Value} (F : FnOk X.prog X.w X.K X.mg X.base CX0 k f fd ps sp) (b : Binds X.K fd ps []) (hr : Room (k + 2) X.A)
    (I : Inv X pins σ H s) (r : Vals ys vs) (hL : vs.length ≤ sizeLine) (hk : s.heap.get? kS = some (seqObj "list" #[] 0)) (ha : s.heap.get? D = some (seqObj "list" #[] e1)) (hne : kS ≠ D) (fk : FpOk X pins H kS) (fa : FpOk X pins H D) (nk : kS ∉ frs X.stack) (na : D ∉ frs X.stack)
    (hsp : ∀ y ∈ ys, sp [y] H (fun v H' => (∃ i, v = .int i) ∧ H' = H) E0) {P : PySem.Fin → Shared → Prop} {E : Value → Shared → Prop}
    (h : ∀ (s' : Shared) (ws : List V), ws.Perm ys → Inv X pins σ (upd H D (.lst ws)) s' → P (.done (.ret .none)) s') :
    wpAny (model X.prog X.w) X.A.in1.in1 (ksk_rest D (.ref f) false vs.toArray e1 (.ref kS)) P E s := by
  have hly := r.length
  unfold ksk_rest
  refine wpAny_bind (wpAny_rule ?_)
  rw [List.forIn_toArray]
  refine wpAny_bind (ksk_fold (fun i s' => Inv X pins σ H s' ∧ ∃ (kA : Array Value) (e : Nat), s'.heap.get? kS = some (seqObj "list" kA e) ∧ s'.heap.get? D = some (seqObj "list" #[] e1) ∧ kA.size = i ∧ ∀ v ∈ kA.toList, IntV v) vs 0 s
    ⟨I, #[], 0, hk, ha, rfl, fun v hv => by simp at hv⟩ ?step ?done)
  case step =>
    rintro j x s' hx ⟨I', kA, e, hk', ha', hsz, hint⟩
    simp only [Nat.zero_add] at hsz ⊢
    obtain ⟨y, hy, ry⟩ := vals_mem r hx
    have hj : j < vs.length := (List.getElem?_eq_some_iff.mp hx).1
    refine wpAny_bind (wpAny_attempt (wpAny_mono (key_call F b hr I' ry (hsp y hy) (E := fun _ _ => False)) (fun v s2 hv => ?_) fun _ _ hF => hF.elim))
    obtain ⟨hiv, I2, keep⟩ := hv
    have k2 := keep kS _ hk' fk.1 nk
    have a2 := keep D _ ha' fa.1 na
    have sb := Heap.SameBut.update s2.heap kS (Obj.mapSeq (·.push v))
    obtain ⟨c2, hc2⟩ : ∃ c2, (s2.heap.update kS (Obj.mapSeq (·.push v))).get? kS = some (seqObj "list" (kA.push v) c2) := ⟨_, get?_update_seq k2 (·.push v)⟩
    refine wpAny_bind (listUpdate_at k2 rfl ?_ (by omega) (by rw [Array.size_push]; omega))
    refine wpAny_pure ⟨rfl, I2.turned (t' := s2.toks) (fun b o hb q => (sb.2 b hb).trans q) fk.1 fk.2.1 fk.2.2.2.1 fk.2.2.2.2.1 fk.2.2.2.2.2, kA.push v, c2, hc2, (sb.2 D hne.symm).trans a2, by rw [Array.size_push, hsz], fun u hu => ?_⟩
    rw [Array.toList_push] at hu
    rcases List.mem_append.mp hu with hu | hu
    · exact hint u hu
    · simp at hu
      subst hu
      exact hiv
  case done =>
    rintro s' ⟨I', kA, e, hk', ha', hsz, hint⟩
    rw [Nat.zero_add] at hsz
    refine wpAny_bind (listItems_at hk' rfl ?_)
    -- the keys as data
    have ex : ∃ ds : List PyData, PySem.W.EachIs (fun v d => ∃ as, Reads s'.heap v d as) kA.toList ds ∧ ∀ d ∈ ds, ∃ i, d = .int i := by
      clear hk' hsz
      generalize kA.toList = l at hint
      induction l with
      | nil => exact ⟨[], .nil, fun d hd => by simp at hd⟩
      | cons v l ih =>
        obtain ⟨ds, q1, q2⟩ := ih fun u hu => hint u (by simp [hu])
        obtain ⟨i, t, ev⟩ := hint v (by simp)
        refine ⟨.int i :: ds, .cons ⟨[], by rw [ev]; exact Reads.int i t⟩ q1, fun d hd => ?_⟩
        rcases List.mem_cons.mp hd with hd | hd
        · exact ⟨i, hd⟩
        · exact q2 d hd
    obtain ⟨ds, q1, q2⟩ := ex
    have al : PySem.W.AllAlike ds := fun d hd d' hd' => by
      obtain ⟨i, e1⟩ := q2 d hd
      obtain ⟨j, e2⟩ := q2 d' hd'
      subst e1
      subst e2
      rfl
    have so : PySem.W.Sortable ds := .inr fun d hd => by
      obtain ⟨i, e1⟩ := q2 d hd
      subst e1
      exact ⟨(fun z => by cases z), fun xs z => by cases z⟩
    have un := hr.units
    have hu : ∀ d, d ∈ ds → X.A.in1.in1.units + d.depth < cLine := fun d hd => by
      obtain ⟨i, e1⟩ := q2 d hd
      subst e1
      show X.A.units + 1 + 1 + 0 < cLine
      omega
    have hok1 : (hidT s'.heap fun b => if b = kS then some (.lst []) else none).get? kS = none := by
      cases q : (hidT s'.heap fun b => if b = kS then some (.lst []) else none).get? kS with
      | none => rfl
      | some o =>
        have := (of_hidT q).2
        rw [if_pos rfl] at this
        cases this
    refine PySem.W.keyH_end (κ := PySem.W.dataKind s'.heap ds) (h₁ := hidT s'.heap fun b => if b = kS then some (.lst []) else none) (fun b o _ q => (of_hidT q).1) hok1 hk' ha' hne (PySem.W.SortsAt.data q1 al so hu) hsz hL fun h' tk c kp hD => ?_
    have kp' : ∀ b o, b ≠ D → b ≠ kS → s'.heap.get? b = some o → h'.get? b = some o := fun b o h1 h2 q => kp b o h1 (hidT_get q (if_neg h2))
    obtain ⟨ws, wp, wr⟩ := vals_perm (sortVals_perm (PySem.W.dataKind s'.heap ds) (ks := kA.toList) (vs := vs) (by rw [Array.length_toList]; exact hsz)) r
    have hlw := wp.length_eq
    have ntr : ∀ b o, H b = some o → b ≠ D ∧ b ≠ kS := fun b o q => ⟨fun z => (by rw [z, fa.1] at q; cases q), fun z => (by rw [z, fk.1] at q; cases q)⟩
    refine h _ ws wp ?_
    refine I'.step (g' := s'.gens) (d' := s'.drawn) (ch := [D, kS]) (fun c hc => ?_) (fun b o _ _ hc q _ => kp' b o (fun z => hc (by simp [z])) (fun z => hc (by simp [z])) q) (fun b o _ _ hc q _ => ⟨o.slots, kp' b o (fun z => hc (by simp [z])) (fun z => hc (by simp [z])) q⟩)
      (fun b o hc q n => by rw [upd_ne (fun z => hc (by simp [z]))]; exact n) (fun b o hc q => ⟨o, kp' b o (fun z => hc (by simp [z])) (fun z => hc (by simp [z])) q⟩) (fun b xs q => by rw [upd_ne (ntr b _ q).1]; exact q) (fun b o u q => by rw [upd_ne (ntr b _ q).1]; exact q)
      (fun b ps q => ⟨#[], by rw [upd_ne (ntr b _ q).1, q]; simp⟩) (fun m hm => ?_) (fun b o q => ?_) I'.bare
    · have e' : c = D ∨ c = kS := by simpa using hc
      rcases e' with z | z
      · subst z
        exact ⟨fa.2.2.2.1, fa.2.1, fa.2.2.2.2.1, fa.2.2.2.2.2⟩
      · subst z
        exact ⟨fk.2.2.2.1, fk.2.1, fk.2.2.2.2.1, fk.2.2.2.2.2⟩
    · obtain ⟨o, es, ep, ho, rest⟩ := hm
      exact ⟨o, es, ep, kp' _ o (Ne.symm fa.2.1) (Ne.symm fk.2.1) ho, rest⟩
    · by_cases hb : b = D
      · subst hb
        rw [upd_same] at q
        cases q
        exact ⟨by rw [hlw, hly]; exact hL, _, c, wr, hD⟩
      · rw [upd_ne hb] at q
        refine (I'.hok b o q).stay (fun c u hc z => ?_) (fun c z => by rw [upd_ne (ntr c _ z).1]; exact z) fun c xs z => by rw [upd_ne (ntr c _ z).1]; exact z
        rcases hc with hc | hc
        · subst hc
          exact kp' _ u (ntr _ _ q).1 (ntr _ _ q).2 z
        · exact kp' _ u (ntr _ _ hc).1 (ntr _ _ hc).2 z
theorem cr_sortedBy (G : Pr X.prog X.w X.K X.mg X.base x ps k sp) (hr : Room (k + 2) X.A) : CallRK X (.builtin "sorted") [Str.ofString "key"] (rSortedBy X.K sp (He.ga X.K x)) := by
  intro pins s σ H xs zs us ws Q I rx rz h
  obtain ⟨a, ys, rfl, rfl, hS, hsp, q⟩ := h
  obtain ⟨⟨fd, F, b⟩, kp, gl⟩ := G
  obtain ⟨u, rfl, ru⟩ := rx.one
  obtain ⟨w, rfl, rw'⟩ := rz.one
  cases ru
  cases rw'
  obtain ⟨its, rv, pl, hz⟩ := I.list hS
  have hlen := rv.length
  have hL : its.length ≤ sizeLine := by omega
  show wpAny _ _ (call (.builtin "sorted") [.ref a] [(Str.ofString "key", .ref (He.ga X.K x))]) _ _ _
  refine PySem.W.sorted_of_sort pl.isList hL (ksk_s1 _ _) (fun y => ksk_l1 _ _) fun E' => ?_
  rw [ksk_t1]
  have I1 : Inv X pins σ H { s with heap := PySem.W.copyHeap s.heap its } := I.kept (t' := s.toks) fun b o e => PySem.W.copyHeap_old e
  have hD := PySem.W.copyHeap_at s.heap its
  have nD : H (s.heap.objs.size + 1) = none := I.hok.fresh (Nat.le_succ _)
  have fD : FpOk X pins H (s.heap.objs.size + 1) := I.fpOk (Nat.le_succ _) nD
  have frD : s.heap.objs.size + 1 ∉ frs X.stack := not_frame I (Nat.le_succ _)
  generalize hDe : s.heap.objs.size + 1 = D at *
  generalize hcp : PySem.W.copyHeap s.heap its = hc at *
  have ltD : D < hc.objs.size := Heap.lt_size hD
  obtain ⟨e1, ho1⟩ : ∃ e1, (hc.update D (Obj.mapSeq fun _ => (#[] : Array Value))).get? D = some (seqObj "list" #[] e1) := ⟨_, get?_update_seq hD fun _ => #[]⟩
  have skS : ((hc.update D (Obj.mapSeq fun _ => (#[] : Array Value))).push (seqObj "tuple" its.toArray 0)).objs.size = hc.objs.size + 1 := by rw [size_push', Heap.size_update]
  unfold ksk_tree
  refine wpAny_bind (listItems_at hD rfl ?_)
  refine wpAny_bind (listUpdate_at hD rfl ?_ (by rw [List.size_toArray]; exact hL) (Nat.zero_le _))
  refine wpAny_bind (seqEpoch_at ho1 rfl ?_)
  refine wpAny_bind (wpAny_newTuple ?_ (by show its.length ≤ _; exact hL))
  refine wpAny_bind (wpAny_newList ?_ (Nat.zero_le _))
  refine wpAny_holding ?_
  have I2 : Inv X pins σ H { s with heap := PySem.W.sortingHeap hc D its } := I1.turned (t' := s.toks) (fun b o hb e => PySem.W.sortingHeap_old hb e) fD.1 fD.2.1 fD.2.2.2.1 fD.2.2.2.2.1 fD.2.2.2.2.2
  have nk : H (hc.objs.size + 1) = none := I1.hok.fresh (Nat.le_succ _)
  refine keys_rest (kS := ((hc.update D (Obj.mapSeq fun _ => (#[] : Array Value))).push (seqObj "tuple" its.toArray 0)).objs.size) (ys := ys) F b hr I2 rv hL (Heap.get?_push_size _ rfl) (Heap.get?_push_of_some _ (Heap.get?_push_of_some _ ho1)) (by rw [skS]; exact Nat.ne_of_gt (Nat.lt_succ_of_lt ltD))
    (by rw [skS]; exact I1.fpOk (Nat.le_succ _) nk) fD (by rw [skS]; exact not_frame I1 (Nat.le_succ _)) frD hsp fun s' ws hp Inew => ⟨rfl, .ref D, _, Inew, rfl, q ws D hp nD⟩
end
end K94

/-! K94Rules3: enumerate of a tuple, xs[-2::-1], repr where no repr runs, defs called where no repr runs. -/
namespace PySem
open Sem (wp)
theorem enumerate_newT (l : Addr) (items : Array Value) (n : Nat) (dct : Option Addr) (sl : Array (Option Value)) :
    Meets (Builtin.«enumerate.__new__» ⟨[.type "enumerate", .ref l], []⟩) (fun _ R s => s.heap.get? l = some { cls := .type "tuple", dict := dct, data := .seq items n, slots := sl } ∧
      R (.ok (.ret (.ref (s.heap.push { cls := .type "tuple_iterator", data := .fields #[.ref l, .int 0 0] }).objs.size)))
        { s with heap := (s.heap.push { cls := .type "tuple_iterator", data := .fields #[.ref l, .int 0 0] }).push { cls := .type "enumerate", data := .fields #[.none, .bool false, .ref s.heap.objs.size, rawInt 0, .none, .none] } }) :=
  .of_wp fun prog w A R s h => by
    obtain ⟨hp, g, d, tk, os⟩ := s
    obtain ⟨hl, h⟩ := h
    have hsub := sub_enumerate
    have hT : Heap.IsTuple (Shared.heap ⟨hp, g, d, tk, os⟩) l items := ⟨_, hl, rfl, n, rfl⟩
    wp_walk using AutoSeq1.wpAny_loadPart' hl
    refine wpAny_stack_any fun st => wpAny_pure ?_
    split
    · rename_i c _ _ _ _ _
      cases (c == Value.type "enumerate")
      · wp_walk using AutoSeq1.wpAny_loadPart' hl, wpAny_pyIter_tuple hT
        exact ⟨_, rfl, h⟩
      · wp_walk using AutoSeq1.wpAny_loadPart' hl, wpAny_pyIter_tuple hT
        exact ⟨_, rfl, h⟩
    · wp_walk using AutoSeq1.wpAny_loadPart' hl, wpAny_pyIter_tuple hT
      exact ⟨_, rfl, h⟩
end PySem
namespace K94
open PySem L2 PySem.Spec PyProof.Rows

/-! ### for i, x in enumerate(t), t a tuple -/
theorem call_enumT {prog : Program} {w : World} {A : Around} {E : Value → Shared → Prop} {s : Shared} {l : Addr} {items : Array Value} {Q : Value → Shared → Prop} (hT : s.heap.IsTuple l items)
    (h : ∀ h', IsEnum h' (s.heap.objs.size + 1) s.heap.objs.size 0 .none → h'.IsTupleIter s.heap.objs.size l 0 → (∀ b o, s.heap.get? b = some o → h'.get? b = some o) → Q (.ref (s.heap.objs.size + 1)) { s with heap := h' }) :
    wpAny (model prog w) A (call (.type "enumerate") [.ref l]) Q E s := by
  obtain ⟨⟨c, dct, dt, sl⟩, hl, hc, n, hd⟩ := hT
  cases hc
  cases hd
  refine callType_new F.called_enumerate (by decide) (F.typeCall_enumerate_1 _) (F.newCall_enumerate_1 _) (fun obj => F.args_object_init_2 obj _) F.entry_enumerate_new (PySem.enumerate_newT l items n dct sl) ⟨hl, ?_⟩
  have z1 : (s.heap.push { cls := .type "tuple_iterator", data := .fields #[.ref l, .int 0 0] }).objs.size = s.heap.objs.size + 1 := Heap.size_push ..
  have e1 : IsEnum ((s.heap.push { cls := .type "tuple_iterator", data := .fields #[.ref l, .int 0 0] }).push { cls := .type "enumerate", data := .fields #[.none, .bool false, .ref s.heap.objs.size, rawInt 0, .none, .none] })
      (s.heap.objs.size + 1) s.heap.objs.size 0 .none := by
    have q := Heap.get?_push_size (s.heap.push { cls := .type "tuple_iterator", data := .fields #[.ref l, .int 0 0] }) (o := { cls := .type "enumerate", data := .fields #[.none, .bool false, .ref s.heap.objs.size, rawInt 0, .none, .none] }) rfl
    rw [z1] at q
    exact q
  show _ ∧ _
  rw [z1]
  exact ⟨⟨_, e1, rfl⟩, h _ e1 ⟨_, Heap.get?_push_of_some _ (Heap.get?_push_size _ rfl), rfl, rfl⟩ fun b o x => Heap.get?_push_of_some _ (Heap.get?_push_of_some _ x)⟩
/-- the tuple at a, ia items in new pairs -/
def IteT (K : PySem.W.Frag) (a : Addr) : It :=
  ⟨fun i H => ∃ (xs : List V) (x : V), SqT K H a xs ∧ xs[i]? = some x, fun i H v H' => ∃ T x, v = .ref T ∧ H T = none ∧ H' = upd H T (.tup [.int (i : Nat), x]) ∧ ∀ xs, SqT K H a xs → xs[i]? = some x, fun i H => ∃ xs : List V, SqT K H a xs ∧ xs.length = i⟩
theorem turn_enumT {P : Program} {w : World} {K : PySem.W.Frag} {elts : List Expr} {kk : Nat} {tpos : Pos} (a e it : Addr) (hne : e ≠ it) (hea : e ≠ a) (hia : it ≠ a) :
    Turn P w K (.Tuple elts kk tpos) (IteT K a) [e, it] e (fun i h => (∃ old, IsEnum h e it ((i : Nat) : Int) old) ∧ h.IsTupleIter it a i) where
  mem := by simp
  obj := fun i h st b hb => by
    obtain ⟨⟨old, he⟩, o, ho, hc, hd⟩ := st
    have oneOf : b = e ∨ b = it := by simpa using hb
    rcases oneOf with z | z
    · subst z
      exact ⟨_, he, fun v q => nomatch q⟩
    · subst z
      exact ⟨o, ho, fun v q => by rw [hd] at q; cases q⟩
  keep := fun i h h' st k => by
    obtain ⟨⟨old, he⟩, hi⟩ := st
    exact ⟨⟨old, k e (by simp) _ he⟩, hi.at fun o q => k it (by simp) o q⟩
  item := by
    intro X hP hw hK hc i pins s σ H E I hf st hg
    subst hP hw hK
    obtain ⟨⟨old, he⟩, itAt⟩ := st
    obtain ⟨xs, x, atT, gx⟩ := hg
    obtain ⟨ia, va, p, hz⟩ := I.tuple atT
    have hi : i < ia.toArray.size := by
      have h1 := (List.getElem?_eq_some_iff.mp gx).1
      have h2 := va.length
      rw [List.size_toArray]
      omega
    have eOld : e < s.heap.objs.size := Heap.lt_size he
    have iOld : it < s.heap.objs.size := by
      obtain ⟨o, ho, _⟩ := id itAt
      exact Heap.lt_size ho
    have D := Draws.tuple (prog := X.prog) (w := X.w) (A := X.A.in1) (I.ok.hd hc) it a (Ne.symm hia) ia.toArray
    refine wpAny_pyNext_enum_itemC D he ⟨itAt, p⟩ hi hne (by simp [hne, hea]) fun u h' tk hu ho hst hT hsz hk => ?_
    obtain ⟨itAt', _⟩ := hst
    have hu : ia[i]? = some u := by simpa using hu
    obtain ⟨y, hy, ry⟩ : ∃ y, xs[i]? = some y ∧ RelV y u := by
      obtain ⟨u', hu', ru⟩ := va.get gx
      rw [hu] at hu'
      cases hu'
      exact ⟨x, gx, ru⟩
    have exy : x = y := Option.some.inj (gx.symm.trans hy)
    subst exy
    refine ⟨_, rfl, wpAny_letOwnedTupleGo_enum (s := { s with heap := h', toks := tk + 1 }) ho fun h2 he2 sb => ?_⟩
    have hT2 : h2.get? s.heap.objs.size = some { cls := .type "tuple", data := .seq #[.int i tk, u] } := (sb.2 _ (Nat.ne_of_gt eOld)).trans hT
    have new : ObjOk X.prog X.w (upd H s.heap.objs.size (.tup [.int (i : Nat), x])) h2 s.heap.objs.size (.tup [.int (i : Nat), x]) :=
      ⟨by show 2 ≤ sizeLine; decide, [.int i tk, u], .cons ⟨_, rfl⟩ (.cons ry .nil), ⟨_, hT2, rfl, _, rfl⟩⟩
    have J1 : Inv X pins σ (upd H s.heap.objs.size (.tup [.int (i : Nat), x])) { s with heap := h2, toks := tk + 1 } :=
      I.turnedNew (ch := [e, it]) (fun b ob hb q => (sb.2 b fun z => hb (by simp [z])).trans (hk b ob (fun z => hb (by simp [z])) (fun z => hb (by simp [z])) q)) hf (Nat.le_refl _) new
    refine ⟨.ref s.heap.objs.size, _, J1, rfl, ⟨_, x, rfl, I.hok.fresh (Nat.le_refl _), rfl, fun ys hy => by rw [I.tuple_inj hy atT]; exact gx⟩, ⟨⟨u, ?_⟩, itAt'.at fun o q => (sb.2 it (Ne.symm hne)).trans q⟩, fun b hb => ?_⟩
    · have z : ((i + 1 : Nat) : Int) = (i : Int) + 1 := by omega
      rw [z]
      exact he2
    · have lb : b < s.heap.objs.size := by
        have oneOf : b = e ∨ b = it := by simpa using hb
        rcases oneOf with z | z
        · rw [z]; exact eOld
        · rw [z]; exact iOld
      rw [upd_ne (Nat.ne_of_lt lb)]
      exact (hf b hb).1
  done := by
    intro X hP hw hK hc i pins s σ H E I hf st hg
    subst hP hw hK
    obtain ⟨⟨old, he⟩, itAt⟩ := st
    obtain ⟨xs, atT, gx⟩ := hg
    obtain ⟨ia, va, p, hz⟩ := I.tuple atT
    have hl := va.length
    obtain ⟨w0, w1, w2, w3, w4, w5⟩ := hf it (by simp)
    have D := Draws.tuple (prog := X.prog) (w := X.w) (A := X.A.in1) (I.ok.hd hc) it a (Ne.symm hia) ia.toArray
    refine wpAny_pyNext_enum_endD D he ⟨by rw [List.size_toArray, ← hl, gx]; exact itAt, p⟩ fun h' eb => ⟨rfl, I.turned (t' := s.toks) (fun b o hb q => eb b o hb q) w0 w1 w3 w4 w5⟩
  self := fun A i s Q E st h => by
    obtain ⟨⟨_, he⟩, _⟩ := st
    exact wpAny_pyIter_enum he h
def iEnumT (K : PySem.W.Frag) (ta : TA) : TI := fun σ H R => ta σ H fun vs H1 => ∃ a xs, vs = [.ref a] ∧ SqT K H1 a xs ∧ R (IteT K a) H1
theorem pi_enumT {X : Cx} {e : Expr} {ta : TA} {p pos tpos : Pos} {elts : List Expr} {kk : Nat} (hm : X.mg "enumerate" = none) (ha : PA X [e] ta) (hg : Gl X "enumerate" := by rfl) (hs : starEach [e] X.env = [(false, eval e X.env)] := by rfl) :
    PI X (.Tuple elts kk tpos) (.Call (.Name "enumerate" p) [e] [] pos) (iEnumT X.K ta) := by
  refine ⟨fun pins s σ H R I h => ?_⟩
  refine Call_ (ld_blt I hg hm boot_enumerate (PyProof.Rows.callWith_type1 (thn (ha.run pos pins s σ H _ I h) fun ws s1 ⟨vs, H1, J1, r1, back⟩ => ?_) hs rfl))
  obtain ⟨a, xs, ex, atT, q⟩ := back
  subst ex
  obtain ⟨u, rfl, ru⟩ := r1.one
  cases ru
  obtain ⟨ia, va, p', hz⟩ := J1.tuple atT
  have la : a < s1.heap.objs.size := p'.lt
  refine call_enumT p' fun h' he itAt hk => wpAny_pyIter_enum he ?_
  refine ⟨s1.heap.objs.size + 1, [s1.heap.objs.size + 1, s1.heap.objs.size], _, _, H1, rfl, J1.kept (t' := s1.toks) hk, turn_enumT a (s1.heap.objs.size + 1) s1.heap.objs.size (Nat.succ_ne_self _) (Nat.ne_of_gt (Nat.lt_succ_of_lt la)) (Nat.ne_of_gt la), ⟨⟨.none, he⟩, itAt⟩, fun b hb => ?_, q⟩
  have lb : s1.heap.objs.size ≤ b := by
    have oneOf : b = s1.heap.objs.size + 1 ∨ b = s1.heap.objs.size := by simpa using hb
    rcases oneOf with z | z
    · rw [z]; exact Nat.le_succ _
    · rw [z]; exact Nat.le_refl _
  exact J1.fpOk lb (J1.hok.fresh lb)
theorem walk_enumT {K : PySem.W.Frag} {a : Addr} {xs : List V} : Walk (IteT K a) xs.length (fun H => SqT K H a xs) (YPair (fun i => some (.int (i : Nat))) (fun i => xs[i]?)) := by
  refine ⟨fun i _ hi q => ⟨xs, xs[i], q, by simp [hi]⟩, fun _ q => ⟨xs, q, rfl⟩, fun i H v H' _ q y => ?_⟩
  obtain ⟨T, x, h1, h2, h3, h4⟩ := y
  exact ⟨T, .int (i : Nat), x, h1, h2, h3, rfl, h4 xs q⟩

/-! ### repr of a tuple of bools, where no repr runs -/
def bTup (bs : List Bool) : PyData := .tuple (bs.map .bool)
theorem dp_bools {K : PySem.W.Frag} {H : Hp} : ∀ bs : List Bool, DpAll K H (bs.map V.bl) (bs.map PyData.bool)
  | [] => .nil
  | b :: r => .cons (.bl b) (dp_bools r)
theorem bools_facts : ∀ bs : List Bool, PyData.showableAll (bs.map .bool) = true ∧ PyData.hasDictAll (bs.map .bool) = false ∧ PyData.depthAll (bs.map .bool) = 0 ∧ PyData.leavesShortAll 13 (bs.map .bool) = true ∧ PyData.weightAll (bs.map .bool) = bs.length
  | [] => ⟨rfl, rfl, rfl, rfl, rfl⟩
  | b :: r => by
    obtain ⟨h1, h2, h3, h4, h5⟩ := bools_facts r
    refine ⟨?_, ?_, ?_, ?_, ?_⟩
    · simp only [List.map_cons, PyData.showableAll, PyData.showable, h1, Bool.and_self]
    · simp only [List.map_cons, PyData.hasDictAll, PyData.hasDict, h2, Bool.or_self]
    · simp only [List.map_cons, PyData.depthAll, PyData.depth, h3, Nat.max_self]
    · simp only [List.map_cons, PyData.leavesShortAll, PyData.leavesShort, h4, Bool.and_self]
    · simp only [List.map_cons, PyData.weightAll, PyData.weight, h5, List.length_cons]; omega
theorem call_reprB {X : Cx} (hg : X.A.guards = some []) (hu : X.A.units + 64 < cLine) : CallR X (.builtin "repr") (fun xs H Q => ∃ a bs, xs = [V.ref a] ∧ SqT X.K H a (bs.map V.bl) ∧ bs.length ≤ 1000 ∧ Q (.str (bTup bs).shown) H) := by
  intro pins s σ H xs ws Q I r h
  obtain ⟨a, bs, rfl, hS, hl, q⟩ := h
  obtain ⟨u, rfl, ru⟩ := r.one
  obtain ⟨as, rd⟩ := Dp.reads I (bTup bs) (.ref a) u (Dp.tup hS (dp_bools bs)) ru
  cases ru
  obtain ⟨h1, h2, h3, h4, h5⟩ := bools_facts bs
  have dp : (bTup bs).depth = 1 := by
    show PyData.depthAll (bs.map .bool) + 1 = 1
    rw [h3]
  refine repr_of_reads' (h₀ := s.heap) rd h1 (fun z => ?_) hg (by rw [dp]; omega) (fun b o e => e) (fun h' u tk hk => ⟨.str (bTup bs).shown, H, I.kept (t' := tk) hk, ⟨u, rfl⟩, q⟩) ?_
  · have z' : PyData.hasDictAll (bs.map .bool) = true := z
    rw [h2] at z'
    cases z'
  · refine PyData.shown_fits (B := 13) (by decide) (by decide) h4 ?_
    show PyData.weightAll (bs.map .bool) ≤ 2 ^ 20
    rw [h5]
    exact Nat.le_trans hl (by decide)
end K94

/-! K94Rules4: t[-2::-1] of a tuple, zip of a tuple and a list. -/
namespace K94
open PySem L2 PySem.Spec PyProof.Rows

/-! ### t[-2::-1] -/
theorem adjust_r2 (n : Nat) : Builtin.Slice.sliceAdjust (some (-2)) none (-1) (n : Int) = (max ((n : Int) - 2) (-1), -1) := by
  unfold Builtin.Slice.sliceAdjust
  refine Prod.ext ?_ ?_
  · show max (-2 + (n : Int)) (-1) = max ((n : Int) - 2) (-1)
    omega
  · rfl
theorem places_r2 (n : Nat) : Builtin.Slice.slicePlaces (max ((n : Int) - 2) (-1)) (-1) (-1) = n - 1 := by
  unfold Builtin.Slice.slicePlaces
  have h1 : ¬ ((-1 : Int) > 0) := by omega
  simp only [h1, if_false]
  rw [show (- -1 : Int) = 1 by decide, Int.ediv_one]
  split <;> omega
theorem pick_r2 (ts : Array Value) : ((List.range (ts.size - 1)).filterMap fun (m : Nat) => ts[(max ((ts.size : Int) - 2) (-1) + (m : Int) * (-1)).toNat]?).toArray = ts.toList.dropLast.reverse.toArray := by
  congr 1
  apply List.ext_getElem?
  intro i
  have key : ∀ k, k ≤ ts.size - 1 → (List.range k).filterMap (fun (m : Nat) => ts[(max ((ts.size : Int) - 2) (-1) + (m : Int) * (-1)).toNat]?) = (ts.toList.dropLast.reverse).take k := by
    intro k
    induction k with
    | zero => intro _; simp
    | succ k ih =>
      intro hk
      rw [List.range_succ, List.filterMap_append, ih (by omega), List.take_add_one]
      congr 1
      have e : (max ((ts.size : Int) - 2) (-1) + (k : Int) * (-1)).toNat = ts.size - 2 - k := by omega
      have inA : k < ts.toList.dropLast.length := by
        rw [List.length_dropLast, Array.length_toList]
        omega
      have e2 : ts.toList.dropLast.reverse[k]? = some ts[ts.size - 2 - k] := by
        rw [List.getElem?_reverse inA, List.length_dropLast, Array.length_toList, List.getElem?_dropLast, if_pos (by rw [Array.length_toList]; omega)]
        rw [Array.getElem?_toList, Array.getElem?_eq_getElem (by omega)]
        congr 2
      rw [e2]
      simp only [List.filterMap_cons, List.filterMap_nil, e]
      rw [Array.getElem?_eq_getElem (by omega)]
      rfl
  rw [key _ (Nat.le_refl _)]
  rw [List.take_of_length_le (by simp)]
section
variable {prog : Program} {w : World} {A : Around} {E : Value → Shared → Prop} {s : Shared}
theorem applied_r2 {sl : Addr} {vl vu vs : Value} {n : Nat} {Q : Int × Int × Nat → Shared → Prop} (sAt : s.heap.IsSliceOf sl vl vu vs) (pl : IsPart vl (some (-2))) (pu : IsPart vu none) (ps : IsPart vs (some (-1)))
    (h : Q (max ((n : Int) - 2) (-1), -1, n - 1) s) : wpAny (model prog w) A (Builtin.Slice.sliceApplied (.ref sl) (pure (n : Int))) Q E s := by
  obtain ⟨os, go, gc, gd⟩ := id sAt
  unfold Builtin.Slice.sliceApplied Builtin.Slice.sliceFields
  refine wpAny_bind (wpAny_bind (wpAny_field go gd (x := vl) rfl (wpAny_bind (wpAny_field go gd (x := vu) rfl (wpAny_bind (wpAny_field go gd (x := vs) rfl (wpAny_pure ?_)))))))
  refine wpAny_bind (HT.slicePart_ ps ?_)
  show wpAny _ _ (if ((-1 : Int) == 0) = true then _ else _) _ _ s
  rw [if_neg (by decide)]
  refine wpAny_bind (HT.slicePart_ pl (wpAny_bind (HT.slicePart_ pu (wpAny_bind (wpAny_pure ?_)))))
  show wpAny _ _ (match Builtin.Slice.sliceAdjust (some (-2)) none (-1) (n : Int) with | (lo, hi) => pure (lo, (-1 : Int), Builtin.Slice.slicePlaces lo hi (-1))) _ _ s
  rw [adjust_r2 n]
  show wpAny _ _ (pure (max ((n : Int) - 2) (-1), (-1 : Int), Builtin.Slice.slicePlaces (max ((n : Int) - 2) (-1)) (-1) (-1))) _ _ s
  rw [places_r2]
  exact wpAny_pure h
theorem getItem_tup_r2 {t sl : Addr} {items : Array Value} {vl vu vs : Value} {Q : Value → Shared → Prop} (tAt : IsTup s.heap t items) (sAt : s.heap.IsSliceOf sl vl vu vs) (pl : IsPart vl (some (-2))) (pu : IsPart vu none) (ps : IsPart vs (some (-1)))
    (h : Q (.ref s.heap.objs.size) { s with heap := s.heap.push { cls := .type "tuple", data := .seq items.toList.dropLast.reverse.toArray } })
    (hsz : items.size ≤ sizeLine) : wpAny (model prog w) A (getItem (.ref t) (.ref sl)) Q E s := by
  have fits : sizeOk (.seq items.toList.dropLast.reverse.toArray) := by
    show items.toList.dropLast.reverse.toArray.size ≤ sizeLine
    rw [List.size_toArray, List.length_reverse, List.length_dropLast, Array.length_toList]
    omega
  obtain ⟨os, go, gc, gd⟩ := id sAt
  have tyS : s.TypeIs (.ref sl) "slice" := ⟨os, go, gc⟩
  unfold getItem
  try with_reducible refine wpAny_holding ?_
  first | refine wpAny_bind (wpAny_pure ?_) | skip
  refine wpAny_bind (wpAny_sequenceKey tAt.typeIs (by decide) ?_)
  refine wpAny_bind (wpAny_callSpecial?_slot (name := Str.ofString "__getitem__") tAt.typeIs PyProof.Rows.slot_tuple_getitem
    (wpAny_call_entry PyProof.Rows.slot_tuple_getitem tAt.typeIs PyProof.Rows.entry_tuple_getitem ?_ (PyProof.Rows.args_tuple_getitem _ _)))
  show wpAny _ _ (Builtin.Tuple.tupleItemsOf (.ref t) >>= _) _ _ s
  refine wpAny_bind (tupleItemsOf_ tAt ?_)
  refine wpAny_bind (wpAny_typeOf tyS ?_)
  rw [if_pos (by decide)]
  refine wpAny_bind (applied_r2 sAt pl pu ps ?_)
  show wpAny _ _ (if (max ((items.size : Int) - 2) (-1) == 0 && (-1 : Int) == 1 && (items.size - 1) == items.size) = true then _ else _) _ _ s
  rw [if_neg (by simp), pick_r2]
  first
    | exact wpAny_bind (m := Builtin.Tuple.tupleExact _) (wpAny_newObj_type (wpAny_pure ⟨_, rfl, wpAny_pure h⟩) fits)
    | exact wpAny_bind (m := Builtin.Tuple.tupleExact _) (wpAny_newObj_type (wpAny_bind (wpAny_pure (wpAny_pure ⟨_, rfl, wpAny_pure h⟩))) fits)
    | exact wpAny_bind (wpAny_bind (m := Builtin.Tuple.tupleExact _) (wpAny_newObj_type (wpAny_pure (wpAny_pure ⟨_, rfl, wpAny_pure h⟩)) fits))
    | exact wpAny_bind (wpAny_bind (m := Builtin.Tuple.tupleExact _) (wpAny_newObj_type (wpAny_pure ⟨_, rfl, wpAny_pure h⟩) fits))
end
def tRev2T (K : PySem.W.Frag) (te : TE) : TE := fun σ H Q => te σ H fun x H1 => ∃ a ts, x = .ref a ∧ SqT K H1 a ts ∧ ∀ p, H1 p = none → Q (.ref p) (upd H1 p (.tup ts.dropLast.reverse))
theorem pe_rev2T {X : Cx} {e : Expr} {te : TE} {k k' : Nat} {onA onB p3 p4 p5 pos : Pos} (he : PE X e te) :
    PE X (.Subscript e (.Slice (some (.UnaryOp .USub (.Constant (.int 2) k' p4) p5)) none (some (.UnaryOp .USub (.Constant (.int 1) k onA) onB)) p3) pos) (tRev2T X.K te) := by
  refine ⟨fun pins s σ H Q I h => ?_⟩
  refine Subscript_ (thn (he.run pins s σ H _ I h) fun v s1 ⟨x, H1, J1, r1, q1⟩ => ?_)
  obtain ⟨a, ts, ex, gx, q⟩ := q1
  subst ex
  cases r1
  have two : PO X (some (.UnaryOp .USub (.Constant (.int 2) k' p4) p5)) (tPart (tUn (rU fun i => .int (-i)) (tC (.int 2)))) := po_some (pe_un un_neg pe_int)
  have one : PO X (some (.UnaryOp .USub (.Constant (.int 1) k onA) onB)) (tPart (tUn (rU fun i => .int (-i)) (tC (.int 1)))) := po_some (pe_un un_neg pe_int)
  refine wpAny_Slice (thn (two.run pins s1 σ H1 (fun o H2 => o = some (-2) ∧ H2 = H1) J1 ⟨2, rfl, -2, rfl, rfl, rfl⟩) fun vl s2 ⟨l, H2, J2, pl, el, e2⟩ => ?_)
  subst el e2
  refine thn (po_none.run pins s2 σ H2 (fun o H3 => o = none ∧ H3 = H2) J2 ⟨rfl, rfl⟩) fun vu s3 ⟨u, H3, I3, pu, eu, e3⟩ => ?_
  subst eu e3
  refine thn (one.run pins s3 σ H3 (fun o H4 => o = some (-1) ∧ H4 = H3) I3 ⟨1, rfl, -1, rfl, rfl, rfl⟩) fun vs s4 ⟨o, H4, I4, ps, eo, e4⟩ => ?_
  subst eo e4
  have J5 : Inv X pins σ H4 { s4 with heap := s4.heap.push { cls := .type "slice", data := .fields #[vl, vu, vs] } } := I4.kept (t' := s4.toks) fun b ob q => Heap.get?_push_of_some _ q
  obtain ⟨ia, r, tAt, hz⟩ := J5.tuple gx
  have hlen := r.length
  show wpAny (model X.prog X.w) X.A (subscriptTail e _ (.ref a) (.ref s4.heap.objs.size)) (EP X pins σ Q) X.xe _
  refine tail_any (ops := [.ref a, .ref s4.heap.objs.size]) tAt.typeIs (PyProof.Rows.slot_tuple_getitem.lookup) ?_ (by with_unfolding_all rfl)
  refine getItem_tup_r2 tAt (Heap.IsSliceOf.new _ vl vu vs) pl pu ps ?_ (by rw [List.size_toArray]; omega)
  refine ⟨.ref _, _, J5.laid (t' := s4.toks) (o := .tup ts.dropLast.reverse) (fun b ob q => Heap.get?_push_of_some _ q) (Nat.le_refl _) ?_, rfl, q _ (J5.hok.fresh (Nat.le_refl _))⟩
  exact ⟨by rw [List.length_reverse, List.length_dropLast]; omega, _, r.dropLast.reverse, IsTup.new _ _⟩

/-! ### for (x, y) in zip(t, l), t a tuple, l a list -/
def ItzM (K : PySem.W.Frag) (a b : Addr) : It :=
  ⟨fun i H => ∃ (ts ls : List V) (x y : V), SqT K H a ts ∧ SqL K H b ls ∧ ts[i]? = some x ∧ ls[i]? = some y,
    fun i H v H' => ∃ T x y, v = .ref T ∧ H T = none ∧ H' = upd H T (.tup [x, y]) ∧ (∀ ts, SqT K H a ts → ts[i]? = some x) ∧ ∀ ls, SqL K H b ls → ls[i]? = some y,
    fun i H => ∃ ts ls : List V, SqT K H a ts ∧ SqL K H b ls ∧ ts.length = i ∧ ls.length = i⟩
theorem turn_zipM {P : Program} {w : World} {K : PySem.W.Frag} {elts : List Expr} {kk : Nat} {tpos : Pos} {a b z TI TO i1 i2 : Addr} (D : PySem.ZipSep2 z TI TO i1 i2 [i1, a] [i2, b]) (n1 : a ≠ i1) (n2 : b ≠ i2) :
    Turn P w K (.Tuple elts kk tpos) (ItzM K a b) [z, TI, TO, i1, i2] z (fun i h => IsZip h z TI TO .none ∧ IsTupOf2 h TI (.ref i1) (.ref i2) ∧ (∃ x y, IsTupOf2 h TO x y) ∧ h.IsTupleIter i1 a i ∧ h.IsListIter i2 b i) where
  mem := by simp
  obj := fun i h st c hc => by
    obtain ⟨hz, cTI, ⟨x, y, cTO⟩, ⟨ob1, e1, _, b1⟩, ⟨ob2, e2, _, b2⟩⟩ := st
    have oneOf : c = z ∨ c = TI ∨ c = TO ∨ c = i1 ∨ c = i2 := by simpa using hc
    rcases oneOf with q | q | q | q | q
    · rw [q]; exact ⟨_, hz, fun v q => nomatch q⟩
    · rw [q]; exact ⟨_, cTI, fun v q => nomatch q⟩
    · rw [q]; exact ⟨_, cTO, fun v q => nomatch q⟩
    · rw [q]; exact ⟨ob1, e1, fun v q => by rw [b1] at q; cases q⟩
    · rw [q]; exact ⟨ob2, e2, fun v q => by rw [b2] at q; cases q⟩
  keep := fun i h h' st k => by
    obtain ⟨hz, cTI, ⟨x, y, cTO⟩, h1, h2⟩ := st
    exact ⟨k z (by simp) _ hz, k TI (by simp) _ cTI, ⟨x, y, k TO (by simp) _ cTO⟩, h1.at fun o q => k i1 (by simp) o q, h2.at fun o q => k i2 (by simp) o q⟩
  item := by
    intro X hP hw hK hc i pins s σ H E I hf st hg
    subst hP hw hK
    obtain ⟨hz, cTI, ⟨x0, y0, cTO⟩, h1, h2⟩ := st
    obtain ⟨ts, ls, x, y, atA, atB, gx, gy⟩ := hg
    obtain ⟨ia, va, p, _⟩ := I.tuple atA
    obtain ⟨ib, vb, onB, _⟩ := I.list atB
    obtain ⟨u, gu, xu⟩ := va.get gx
    obtain ⟨u2, gu2, yu⟩ := vb.get gy
    have l1 : i < ia.toArray.size := by rw [List.size_toArray]; exact (List.getElem?_eq_some_iff.mp gu).1
    have l2 : i < ib.toArray.size := by rw [List.size_toArray]; exact (List.getElem?_eq_some_iff.mp gu2).1
    have zOld : z < s.heap.objs.size := Heap.lt_size hz
    have drA := PySem.Draws.tuple (prog := X.prog) (w := X.w) (A := X.A.in1) (I.ok.hd hc) i1 a n1 ia.toArray
    have drB := PySem.Draws.list (prog := X.prog) (w := X.w) (A := X.A.in1) (I.ok.hd hc) i2 b n2 ib.toArray
    refine wpAny_pyNext_zipD2_item D drA drB hz cTI cTO ⟨h1, p⟩ ⟨h2, onB.isList⟩ l1 l2 fun v1 v2 h' tk q1 q2 z' toAt stA stB nT hsz hk => ?_
    have e1 : v1 = u := by simpa using (q1.symm.trans (by simpa using gu) : some v1 = some u)
    have e2 : v2 = u2 := by simpa using (q2.symm.trans (by simpa using gu2) : some v2 = some u2)
    subst e1 e2
    refine ⟨_, rfl, wpAny_letOwnedTupleGo_zip (s := { s with heap := h', toks := tk }) z' fun h'' z'' only => ?_⟩
    have pairAt : h''.get? s.heap.objs.size = some { cls := .type "tuple", data := .seq #[v1, v2] } := (only.2 _ (Nat.ne_of_gt zOld)).trans nT
    have pairOk : ObjOk X.prog X.w (upd H s.heap.objs.size (.tup [x, y])) h'' s.heap.objs.size (.tup [x, y]) :=
      ⟨by show 2 ≤ sizeLine; decide, [v1, v2], .cons xu (.cons yu .nil), ⟨_, pairAt, rfl, _, rfl⟩⟩
    have J1 : Inv X pins σ (upd H s.heap.objs.size (.tup [x, y])) { s with heap := h'', toks := tk } :=
      I.turnedNew (t' := tk) (ch := [z, TI, TO, i1, i2]) (fun c o hb q => (only.2 c (fun q' => hb (by simp [q']))).trans (hk c o (fun q' => hb (by simp [q'])) (fun q' => hb (by simp [q'])) (fun q' => hb (by simp [q'])) (fun q' => hb (by simp [q'])) q)) hf (Nat.le_refl _) pairOk
    refine ⟨.ref s.heap.objs.size, _, J1, rfl, ⟨_, x, y, rfl, I.hok.fresh (Nat.le_refl _), rfl, fun l hl => by rw [I.tuple_inj hl atA]; exact gx, fun l hl => by rw [I.list_inj hl atB]; exact gy⟩, ⟨z'', ?_, ⟨v1, v2, ?_⟩, ?_, ?_⟩, fun c inC => ?_⟩
    · exact (only.2 _ D.TIz).trans (hk _ _ D.TIz D.TITO D.TIi1 D.TIi2 cTI)
    · exact (only.2 _ D.TOz).trans toAt
    · exact stA.1.at fun o q => (only.2 _ (Ne.symm D.zi1)).trans q
    · exact stB.1.at fun o q => (only.2 _ (Ne.symm D.zi2)).trans q
    · have inA : c < s.heap.objs.size := by
        have oneOf : c = z ∨ c = TI ∨ c = TO ∨ c = i1 ∨ c = i2 := by simpa using inC
        rcases oneOf with q | q | q | q | q
        · rw [q]; exact zOld
        · rw [q]; exact Heap.lt_size cTI
        · rw [q]; exact Heap.lt_size cTO
        · rw [q]; obtain ⟨_, e1, _⟩ := h1; exact Heap.lt_size e1
        · rw [q]; obtain ⟨_, e2, _⟩ := h2; exact Heap.lt_size e2
      rw [upd_ne (Nat.ne_of_lt inA)]
      exact (hf c inC).1
  done := by
    intro X hP hw hK hc i pins s σ H E I hf st hg
    subst hP hw hK
    obtain ⟨hz, cTI, ⟨x0, y0, cTO⟩, h1, h2⟩ := st
    obtain ⟨ts, ls, atA, atB, e1, e2⟩ := hg
    obtain ⟨ia, va, p, _⟩ := I.tuple atA
    obtain ⟨ib, vb, onB, _⟩ := I.list atB
    have l1 : i = ia.toArray.size := by rw [List.size_toArray, ← va.length, e1]
    have l2 : i = ib.toArray.size := by rw [List.size_toArray, ← vb.length, e2]
    have drA := PySem.Draws.tuple (prog := X.prog) (w := X.w) (A := X.A.in1) (I.ok.hd hc) i1 a n1 ia.toArray
    have drB := PySem.Draws.list (prog := X.prog) (w := X.w) (A := X.A.in1) (I.ok.hd hc) i2 b n2 ib.toArray
    exact wpAny_pyNext_zipD2_end D drA drB hz cTI cTO ⟨h1, p⟩ ⟨h2, onB.isList⟩ (Nat.le_of_eq l1) (Nat.le_of_eq l2) (.inl l1) fun h' tk hk => ⟨rfl, I.turnedL (t' := tk) (ch := [z, TI, TO, i1, i2]) (fun c o hb q =>
      hk c o (fun q' => hb (by simp [q'])) (fun q' => hb (by simp [q'])) (fun q' => hb (by simp [q'])) (fun q' => hb (by simp [q'])) q) hf⟩
  self := fun A i s Q E st h => wpAny_pyIter_zip st.1 h
def iZipM (K : PySem.W.Frag) (ta : TA) : TI := fun σ H R => ta σ H fun vs H1 => ∃ a b ts ls, vs = [.ref a, .ref b] ∧ SqT K H1 a ts ∧ SqL K H1 b ls ∧ R (ItzM K a b) H1
theorem pi_zipM {X : Cx} {e e2 : Expr} {ta : TA} {p pos tpos : Pos} {elts : List Expr} {kk : Nat} (hm : X.mg "zip" = none) (ha : PA X [e, e2] ta) (hg : Gl X "zip" := by rfl)
    (sAt : starEach [e, e2] X.env = (false, eval e X.env) :: starEach [e2] X.env := by rfl) (hpl : (backTo pos (starEach [e2] X.env)).any (·.1) = false := by rfl) :
    PI X (.Tuple elts kk tpos) (.Call (.Name "zip" p) [e, e2] [] pos) (iZipM X.K ta) := by
  refine ⟨fun pins s σ H R I h => ?_⟩
  refine Call_ (ld_blt I hg hm PyProof.Rows.boot_zip (PyProof.Rows.callWith_type1 (thn (ha.run pos pins s σ H _ I h) fun ws s1 ⟨vs, H1, J1, r1, q1⟩ => ?_) sAt hpl))
  obtain ⟨a, b, ts, ls, ex, atA, atB, q⟩ := q1
  subst ex
  cases r1 with
  | cons r rr =>
    cases rr with
    | cons r' rr =>
      cases rr
      cases r
      cases r'
      have newOnes : ∀ c, c ∈ [s1.heap.objs.size + 4, s1.heap.objs.size + 2, s1.heap.objs.size + 3, s1.heap.objs.size, s1.heap.objs.size + 1] → FpOk X pins H1 c := fun c inC => by
        have oneOf : c = s1.heap.objs.size + 4 ∨ c = s1.heap.objs.size + 2 ∨ c = s1.heap.objs.size + 3 ∨ c = s1.heap.objs.size ∨ c = s1.heap.objs.size + 1 := by simpa using inC
        have atEnd : s1.heap.objs.size ≤ c := by
          rcases oneOf with z | z | z | z | z
          · rw [z]; exact Nat.le_add_right _ _
          · rw [z]; exact Nat.le_add_right _ _
          · rw [z]; exact Nat.le_add_right _ _
          · rw [z]; exact Nat.le_refl _
          · rw [z]; exact Nat.le_add_right _ _
        exact J1.fpOk atEnd (J1.hok.fresh atEnd)
      obtain ⟨ia, va, onA, _⟩ := J1.tuple atA
      obtain ⟨ib, vb, onB, _⟩ := J1.list atB
      have la : a < s1.heap.objs.size := onA.lt
      have lb : b < s1.heap.objs.size := onB.lt
      refine zip_begins2 (begins_tuple a ia.toArray) (begins_list b ib.toArray) onA onB.isList fun h' hz cTI cTO h1 h2 hsz hk => wpAny_pyIter_zip hz ?_
      have J2 : Inv X pins σ H1 { s1 with heap := h' } := J1.kept (t' := s1.toks) hk
      exact ⟨s1.heap.objs.size + 4, [s1.heap.objs.size + 4, s1.heap.objs.size + 2, s1.heap.objs.size + 3, s1.heap.objs.size, s1.heap.objs.size + 1], _, _, H1, rfl, J2,
        turn_zipM (PySem.zip_sep2 (fp1 := [a]) (fp2 := [b]) (fun c hc => by rw [List.mem_singleton.mp hc]; exact la) (fun c hc => by rw [List.mem_singleton.mp hc]; exact lb)) (Nat.ne_of_lt la) (Nat.ne_of_lt (Nat.lt_succ_of_lt lb)),
        ⟨hz, cTI, ⟨_, _, cTO⟩, ⟨_, h1, rfl, rfl⟩, ⟨_, h2, rfl, rfl⟩⟩, newOnes, q⟩
theorem for_zipM {K : PySem.W.Frag} {a b : Addr} {ts ls : List V} {g : TG} {tb : TS} {D : Ends} {σ : L2.St} {H : Hp} (hl : ts.length = ls.length) (Pv : Nat → L2.St → Hp → Prop) (h0 : Pv 0 σ H) (hq : ∀ i σ H, Pv i σ H → SqT K H a ts ∧ SqL K H b ls)
    (sAt : ∀ (i : Nat) (x y : V) (T : Addr) (σ : L2.St) (H : Hp), ts[i]? = some x → ls[i]? = some y → Pv i σ H → H T = none → g (.ref T) σ (upd H T (.tup [x, y])) fun σ2 H2 => tb { D with nx := Pv (i + 1), ct := Pv (i + 1), bk := D.nx } σ2 H2) (hd : ∀ σ H, Pv ts.length σ H → D.nx σ H) :
    ∃ W : Nat → Nat → L2.St → Hp → Prop, (∃ m, W 0 m σ H) ∧ ∀ i m σ H, W i m σ H →
      ((ItzM K a b).stop i H ∧ D.nx σ H) ∨ ((ItzM K a b).go i H ∧ ∃ N : L2.St → Hp → Prop, (∀ σ' H', N σ' H' → ∃ m', m' < m ∧ W (i + 1) m' σ' H') ∧ ∀ v H', (ItzM K a b).yld i H v H' → g v σ H' fun σ2 H2 => tb { D with nx := N, ct := N, bk := D.nx } σ2 H2) := by
  refine ⟨fun i m σ H => m = ts.length - i ∧ i ≤ ts.length ∧ Pv i σ H, ⟨ts.length, rfl, Nat.zero_le _, h0⟩, fun i m σ H hW => ?_⟩
  obtain ⟨rfl, hi, p⟩ := hW
  obtain ⟨ax, ay⟩ := hq i σ H p
  by_cases inA : i < ts.length
  · have gx : ts[i]? = some ts[i] := List.getElem?_eq_getElem inA
    have inB : i < ls.length := by omega
    have gy : ls[i]? = some ls[i] := List.getElem?_eq_getElem inB
    refine .inr ⟨⟨ts, ls, _, _, ax, ay, gx, gy⟩, Pv (i + 1), fun σ' H' p' => ⟨ts.length - (i + 1), by omega, rfl, inA, p'⟩, fun v H' y => ?_⟩
    obtain ⟨T, xv, yv, rfl, nT, rfl, w1, w2⟩ := y
    exact sAt i xv yv T σ H (w1 ts ax) (w2 ls ay) p nT
  · have e : i = ts.length := by omega
    subst e
    exact .inl ⟨⟨ts, ls, ax, ay, rfl, hl.symm⟩, hd σ H p⟩
end K94

/-! K94Guard: promises of defs that are called where no repr runs (law and what it calls by repr). -/
namespace K94
open PySem L2 PySem.Spec PyProof.Rows

/-- as FnOk, where no repr runs -/
structure FnG (P : Program) (w : World) (K : PySem.W.Frag) (mg : Str → Option Value) (base : Heap) (k : Nat) (f : Addr) (fd : FuncData) (ps : List Str) (sp : Sp) : Prop where
  len : ∀ vs H Q E, sp vs H Q E → vs.length = ps.length
  run : ∀ (A : Around) (outer : List Env) (s : Shared) (H : Hp) (args : Args) (us : List Value) (vs : List V) (Q : VK) (E : XK), A.guards = some [] → Room k A → Env0 P w K mg base A outer s H → BindsTo s fd args (ps.zip us) → Vals vs us →
    sp vs H Q E → codeAny (model P w) A (.call (.ref f) args) (CR CX0 outer P w H s Q E) s
structure PrG (P : Program) (w : World) (K : PySem.W.Frag) (mg : Str → Option Value) (base : Heap) (x : Str) (ps : List Str) (k : Nat) (sp : Sp) : Prop where
  ex : ∃ fd, FnG P w K mg base k (He.ga K x) fd ps sp ∧ Binds K fd ps [] ∧ ∀ (s : Shared) (us : List Value), us.length = ps.length → BindsTo s fd ⟨us, []⟩ (ps.zip us)
  kp : PySem.W.keepIn K (.ref (He.ga K x)) = true
  gl : mg x = some (.ref (He.ga K x))
section
variable {mg : Str → Option Value} {K : PySem.W.Frag} {P : Program} {w : World} {base : Heap}
theorem Df.prG {x : Str} {st : Stmt} {N ps : List Str} {k : Nat} {sp : Sp} (D : Df K mg x st) (S : FnScope N ps (defScope st))
    (hb : ∀ (kV doc pm : Value) (an : Option Addr) (cdv ct : Value) (us : List Value), us.length = ps.length → bindArgs (PySem.W.fnOf x x (defArgs st) (defBody st) (defScope st) .none kV doc pm an cdv ct) ⟨us, []⟩ = pure (ps.zip us))
    (len : ∀ vs H Q E, sp vs H Q E → vs.length = ps.length)
    (hbody : ∀ (cdv : Value) (A : Around) (outer : List Env) (s : Shared) (H : Hp) (vs : List V) (Q : VK) (E : XK), A.guards = some [] → Room k (A.deeper (envOfC x (defScope st) s.heap.objs.size (He.ga K x) cdv)) → sp vs H Q E →
      ∃ t, PSs (cxOf CX0 P w K mg base N x (defScope st) (He.ga K x) cdv A outer s H E).nox (defBody st) t ∧ t { nx := fun _ H' => Q .non H', rt := Q } (start N vs) H) : PrG P w K mg base x ps (k + 1) sp := by
  obtain ⟨⟨fd, F⟩, gl⟩ := D
  refine ⟨⟨fd, ⟨len, ?_⟩, F.bindsN hb, F.bindsA hb⟩, F.kp, gl⟩
  obtain ⟨oc, od, dV, kV, doc, pm, an, cdv, ct, osl, rfl, look, code, _, _⟩ := F.ex
  intro A outer s H args us vs Q E hgd hr e0 hbi r hsp
  have up : ∀ b o, base.get? b = some o → s.heap.get? b = some o := fun b o q => (e0.bs b o q).1
  have KX := e0.mod.kin.keeps up
  have names : ∀ y ∈ ps.zip us, (defScope st).names.lookup y.1 = some .local ∨ ((defScope st).names.lookup y.1 = some .cell ∧ ((cellsFrom (s.heap.objs.size + 1) (defScope st).names []).lookup y.1).isSome = true) := by
    rintro ⟨n, v⟩ hy
    rcases S.par n (List.of_mem_zip hy).1 with q | q
    · left; exact q
    · right; exact ⟨q, PySem.W.cellsFrom_some _ _ _ (.inl q)⟩
  refine codeAny_call_function hr.depth (KX _ _ look) rfl S.co S.gen rfl (PySem.W.codeRec_of KX code) (hbi _ _ _ _ (wpAny_newFunctionEnv_cells S.kind names fun env he s1 x => ?_))
  · subst he
    refine ⟨(e0.mod.nolimit.keeps up).keeps x.toInCall.keep, codeAny_func ?_⟩
    obtain ⟨t, ht, hq⟩ := hbody cdv A outer s H vs Q E hgd (hr.deeper _) hsp
    have I := inv_start (CX := CX0) (P := P) (w := w) (K := K) (mg := mg) (base := base) (E := E) S hr.hd e0 (len _ _ _ _ hsp) r x
    refine wpAny_mono (ht.nox.run [] s1 _ H _ I hq) (fun fl s2 hs => ?_) fun _ _ z => z
    cases fl with
    | ret u => obtain ⟨v, σ', H', J, rvs, q⟩ := hs; exact ⟨v, H', J.os, J.bare, J.base, J.hok, rvs, q⟩
    | next => obtain ⟨σ', H', J, q⟩ := hs; exact ⟨V.non, H', J.os, J.bare, J.base, J.hok, rfl, q⟩
    | brk => obtain ⟨_, _, _, q⟩ := hs; exact q.elim
    | cont => obtain ⟨_, _, _, q⟩ := hs; exact q.elim
end
section
variable {X : Cx} {x : Str} {ps : List Str} {k : Nat} {sp : Sp} {p pos : Pos} {e : Expr} {es : List Expr} {t : TA}
theorem pe_prG (G : PrG X.prog X.w X.K X.mg X.base x ps k sp) (hgd : X.A.guards = some []) (hr : Room k X.A) (ha : PA X (e :: es) t) (hg : Gl X x := by rfl)
    (hdb : (x == ("__debug__" : Str)) = false := by decide) (he : starEach (e :: es) X.env = (false, eval e X.env) :: starEach es X.env := by rfl) (hpl : (backTo pos (starEach es X.env)).any (·.1) = false := by rfl) :
    PE X (.Call (.Name x p) (e :: es) [] pos) (tCall sp [] E0 t) := by
  obtain ⟨⟨fd, F, b, _⟩, kp, gl⟩ := G
  refine ⟨fun pins s σ H Q I h => wpAny_Call_Name_kw (ld_glob I hg gl ?_ hdb)⟩
  refine PySem.W.callWith_K (h₀ := X.base) I.ok.mod.kin kp (thn (ha.run pos pins s σ H _ I h) fun us s1 hq => ?_) he hpl
  obtain ⟨vs, H1, I1, r, q⟩ := hq
  refine ⟨I1.kIn, ?_⟩
  have q : sp (vs ++ []) H1 Q E0 := q
  rw [List.append_nil] at q
  have hl : (us ++ []).length = ps.length := by
    rw [List.append_nil, ← r.length]
    exact F.len _ _ _ _ q
  have bb := b s1 us I1.kIn hl
  rw [List.append_nil] at bb
  refine wpAny_call (codeAny_mono (F.run X.A X.stack s1 H1 ⟨us, []⟩ us vs Q E0 hgd hr I1.env0 bb r q) fun z s' hz => ?_)
  cases z with
  | error e => exact hz.elim
  | ok fl =>
    cases fl with
    | ret u => exact I1.after hz
    | next => exact hz.elim
    | brk => exact hz.elim
    | cont => exact hz.elim
end
/-- the law's own call -/
theorem law_callG {P : Program} {w : World} {K : PySem.W.Frag} {mg mb : Str → Option Value} {k : Nat} {fa a : Addr} {x : Str} {sp : Sp} {s : Shared} {vs : List Value} {ns : List Int}
    (KX : K.In s.heap) (hns : s.heap.Ns mainGlobals mg) (hb : s.heap.Ns builtinsNs mb) (hbb : ∀ x : Str, x ≠ "__name__" → mb x = bootBuiltins x) (hlim : s.heap.NoLimit) (hg : s.gens = #[])
    (ha : s.heap.get? a = some { cls := .type "list", data := .seq vs.toArray }) (hi : IntsAre vs ns) (hl : ns.length ≤ sizeLine) (hr : Room k callerA)
    (F : ∀ base : Heap, K.In base → base.Ns mainGlobals mg → ∃ fd, FnG P w K mg base k fa fd [x] sp ∧ ∀ (s : Shared) (u : Value), BindsTo s fd ⟨[u], []⟩ [(x, u)])
    (hsp : ∀ H : Hp, SqL K H a (ns.map V.int) → sp [.ref a] H (fun v _ => v = .bl true) E0) :
    codeAny (model P w) callerA (.call (.ref fa) ⟨[.ref a], []⟩) (fun r s' => r = .ok (.ret (.bool true)) ∧ OldK s.heap s'.heap ∧ s'.os = s.os ∧ AllBare s'.gens) s := by
  have rvs : Vals (ns.map V.int) vs := L2.vals_ints hi
  have lv : ns.length = vs.length := hi.length.symm
  let H : Hp := fun b => if b = a ∧ K.lookup a = none then some (.frz { cls := .type "list", data := .seq vs.toArray } (.lst (ns.map V.int))) else none
  have one : ∀ b u, H b = some u → b = a ∧ K.lookup a = none ∧ u = .frz { cls := .type "list", data := .seq vs.toArray } (.lst (ns.map V.int)) := fun b u q => by
    by_cases c : b = a ∧ K.lookup a = none
    · have e : H b = some _ := if_pos c
      rw [e] at q
      cases q
      exact ⟨c.1, c.2, rfl⟩
    · have e : H b = none := if_neg c
      rw [e] at q
      cases q
  have hok : HOk P w H s.heap := fun b u q => by
    obtain ⟨e1, _, e3⟩ := one b u q
    subst e1
    subst e3
    exact ⟨ha, by rw [List.length_map]; exact hl, vs, _, rvs, ha⟩
  have hS : SqL K H a (ns.map V.int) := by
    cases q : K.lookup a with
    | none => exact .inl (.inr ⟨{ cls := .type "list", data := .seq vs.toArray }, if_pos ⟨rfl, q⟩⟩)
    | some o =>
      have e := KX a o q
      rw [ha] at e
      cases e
      exact .inr ⟨_, vs.toArray, _, q, rfl, rfl, rfl, by rw [List.size_toArray, ← lv]; exact hl, rvs⟩
  have nsK : ∀ {b : Addr} {m : Str → Option Value}, s.heap.Ns b m → (hidT s.heap H).Ns b m := fun {b m} h => by
    obtain ⟨o, es, ep, e, d, rest⟩ := h
    refine ⟨o, es, ep, hidT_get e ?_, d, rest⟩
    cases q : H b with
    | none => rfl
    | some u =>
      obtain ⟨e1, _, _⟩ := one b u q
      rw [e1, ha] at e
      cases e
      cases d
  have KB : K.In (hidT s.heap H) := fun b o e => hidT_get (KX b o e) (by
    cases q : H b with
    | none => rfl
    | some u =>
      obtain ⟨e1, e2, _⟩ := one b u q
      rw [e1, e2] at e
      cases e)
  have M : Mod K mg (hidT s.heap H) := by
    obtain ⟨mc, h1, h2⟩ := hlim
    exact ⟨KB, nsK hns, ⟨mb, nsK hb, hbb⟩, ⟨mc, nsK h1, h2⟩⟩
  have e0 : Env0 P w K mg (hidT s.heap H) callerA [] s H := ⟨rfl, M, fun b o e => of_hidT e, Nat.le_of_eq (hidT_size _ _), trivial, fun b z => by simp [frs] at z, hok, .of_eq hg⟩
  obtain ⟨fd, F1, hbind⟩ := F _ KB (nsK hns)
  refine codeAny_mono (F1.run callerA [] s H ⟨[.ref a], []⟩ [.ref a] [.ref a] _ _ rfl hr e0 (hbind s (.ref a)) (.cons rfl .nil) (hsp H hS)) fun q s' h => ?_
  cases q with
  | error e => exact h.elim
  | ok fl =>
    cases fl with
    | next => exact h.elim
    | brk => exact h.elim
    | cont => exact h.elim
    | ret u =>
      obtain ⟨v, H', os, bare, unt, hokA, r', q⟩ := h
      have ev : v = .bl true := q
      subst ev
      have eu : u = Value.bool true := r'
      subst eu
      refine ⟨rfl, OldK.of_keep fun b o e => ?_, os, bare⟩
      cases c : H b with
      | none => exact unt.keep b o e c (by simp [frs]) (by simp)
      | some u =>
        obtain ⟨e1, _, e3⟩ := one b u c
        subst e3
        have z := (hokA b _ (unt.frzs b _ _ c)).1
        rw [e1] at e ⊢
        rw [ha] at e
        cases e
        rw [e1] at z
        exact z
theorem walk_G {l : PySem.W.OpenLaw} {n k : Nat} {q : Program} {loose : List Str} {XP : (Str → Option Value) → Heap → Prop} {YP : World → Heap → Prop} {d : DefRec} {x : Str}
    (hn : l.most = some n) (hn2 : n ≤ sizeLine) (hdf : d.params.defaults = []) (hr : Room k callerA)
    (F : ∀ (w : World) (mg : Str → Option Value) (fa : Addr) (h : Heap), YP w h → h.Ns mainGlobals mg → mg d.name = some (.ref fa) →
      ∃ (K : PySem.W.Frag) (sp : Sp), K.In h ∧
        (∀ (H : Hp) (a : Addr) (ns : List Int), ns.length ≤ n → SqL K H a (ns.map V.int) → sp [.ref a] H (fun v _ => v = .bl true) E0) ∧
        ∀ base : Heap, K.In base → base.Ns mainGlobals mg → ∃ fd, FnG l.prog w K mg base k fa fd [x] sp ∧ ∀ (s : Shared) (u : Value), BindsTo s fd ⟨[u], []⟩ [(x, u)]) :
    PySem.W.WalkO q loose XP YP l.row.toRowW d [] (fun f vs => PySem.call f vs) := by
  refine Att.attach_call hn hdf fun w s0 s1 mg mb fa o pm cd doc a vs ns G Y ho hd code atLaw hobj hints hlen hg => ?_
  obtain ⟨K, sp, KX, hsp, hF⟩ := F w mg fa _ Y G.T.g atLaw
  exact law_callG KX G.T.g G.T.b G.T.builtins G.T.nolimit hg hobj hints (Nat.le_trans hlen hn2) hr hF fun H hS => hsp H a ns hlen hS
end K94

/-! K94Heap: trees, rows, lots, events in the abstract heap; rules with the written part named. -/
namespace K94
open PySem L2 PySem.Spec PyProof.Rows

/-! ### item by item -/
inductive F2 {α β : Type} (R : α → β → Prop) : List α → List β → Prop
  | nil : F2 R [] []
  | cons {a : α} {b : β} {as : List α} {bs : List β} : R a b → F2 R as bs → F2 R (a :: as) (b :: bs)
section
variable {α β : Type} {R S : α → β → Prop} {as as' : List α} {bs bs' : List β}
theorem F2.len (h : F2 R as bs) : as.length = bs.length := by
  induction h with
  | nil => rfl
  | cons _ _ ih => simp [ih]
theorem F2.mono (h : F2 R as bs) (f : ∀ a b, R a b → S a b) : F2 S as bs := by
  induction h with
  | nil => exact .nil
  | cons a _ ih => exact .cons (f _ _ a) ih
theorem F2.app (h : F2 R as bs) (g : F2 R as' bs') : F2 R (as ++ as') (bs ++ bs') := by
  induction h with
  | nil => exact g
  | cons a _ ih => exact .cons a ih
theorem F2.snoc {a : α} {b : β} (h : F2 R as bs) (g : R a b) : F2 R (as ++ [a]) (bs ++ [b]) := h.app (.cons g .nil)
theorem F2.get (h : F2 R as bs) : ∀ {i : Nat} {b : β}, bs[i]? = some b → ∃ a, as[i]? = some a ∧ R a b := by
  induction h with
  | nil => intro i b e; simp at e
  | cons r _ ih =>
    intro i b e
    cases i with
    | zero => simp at e; subst e; exact ⟨_, rfl, r⟩
    | succ i => simpa using ih (i := i) (b := b) (by simpa using e)
theorem F2.get' (h : F2 R as bs) : ∀ {i : Nat} {a : α}, as[i]? = some a → ∃ b, bs[i]? = some b ∧ R a b := by
  induction h with
  | nil => intro i b e; simp at e
  | cons r _ ih =>
    intro i b e
    cases i with
    | zero => simp at e; subst e; exact ⟨_, rfl, r⟩
    | succ i => simpa using ih (i := i) (a := b) (by simpa using e)
theorem F2.take (h : F2 R as bs) : ∀ n : Nat, F2 R (as.take n) (bs.take n) := by
  induction h with
  | nil => intro n; simpa using F2.nil
  | cons r _ ih =>
    intro n
    cases n with
    | zero => exact .nil
    | succ n => exact .cons r (ih n)
theorem F2.drop (h : F2 R as bs) : ∀ n : Nat, F2 R (as.drop n) (bs.drop n) := by
  induction h with
  | nil => intro n; simpa using F2.nil
  | cons r t ih =>
    intro n
    cases n with
    | zero => exact .cons r t
    | succ n => exact ih n
theorem F2.mem (h : F2 R as bs) {b : β} (hb : b ∈ bs) : ∃ a, a ∈ as ∧ R a b := by
  obtain ⟨i, e⟩ := List.getElem?_of_mem hb
  obtain ⟨a, e2, r⟩ := h.get e
  exact ⟨a, List.mem_of_getElem? e2, r⟩
theorem F2.perm {cs : List β} (p : cs.Perm bs) : ∀ {as : List α}, F2 R as bs → ∃ ds, ds.Perm as ∧ F2 R ds cs := by
  induction p with
  | nil => intro as h; exact ⟨as, .refl _, h⟩
  | cons x _ ih =>
    intro as h
    cases h with
    | cons r t =>
      obtain ⟨ds, q, s⟩ := ih t
      exact ⟨_ :: ds, q.cons _, .cons r s⟩
  | swap x y l =>
    intro as h
    cases h with
    | cons r t =>
      cases t with
      | cons r2 t => exact ⟨_, List.Perm.swap _ _ _, .cons r2 (.cons r t)⟩
  | trans _ _ i1 i2 =>
    intro as h
    obtain ⟨ds, q, s⟩ := i2 h
    obtain ⟨es, q2, s2⟩ := i1 s
    exact ⟨es, q2.trans q, s2⟩
end

/-! ### heaps -/
/-- the tuples stand -/
def SameT (H H' : Hp) : Prop := ∀ b xs, H b = some (.tup xs) → H' b = some (.tup xs)
theorem _root_.L2.Same.T {H H' : Hp} (s : Same H H') : SameT H H' := fun b xs e => s b _ e
theorem SameT.refl (H : Hp) : SameT H H := fun _ _ e => e
theorem SameT.trans {H H1 H2 : Hp} (s : SameT H H1) (t : SameT H1 H2) : SameT H H2 := fun b xs e => t b xs (s b xs e)
theorem SameT.new {H : Hp} {p : Addr} (h : H p = none) (o : HO) : SameT H (upd H p o) := fun b xs e => same_upd h o b _ e
/-- a list is written -/
theorem SameT.lst {H : Hp} {p : Addr} {xs : List V} (h : H p = some (.lst xs)) (o : HO) : SameT H (upd H p o) := fun b ys e => by
  rw [upd_ne (fun z => by rw [z, h] at e; cases e)]
  exact e
theorem SameT.dk {H : Hp} {p : Addr} {kvs : List (Key × V)} (h : H p = some (.dK kvs)) (o : HO) : SameT H (upd H p o) := fun b ys e => by
  rw [upd_ne (fun z => by rw [z, h] at e; cases e)]
  exact e
mutual
def TAt (H : Hp) : Tree → V → Prop
  | .btn n, v => v = .int n
  | .trip k ps, v => ∃ a b vs, v = .ref a ∧ H a = some (.tup [.int k, .ref b]) ∧ H b = some (.tup vs) ∧ TAtL H ps vs
def TAtL (H : Hp) : List Tree → List V → Prop
  | [], vs => vs = []
  | p :: r, vs => ∃ v ws, vs = v :: ws ∧ TAt H p v ∧ TAtL H r ws
end
theorem tatL {H : Hp} : ∀ {ps : List Tree} {vs : List V}, TAtL H ps vs ↔ F2 (TAt H) ps vs
  | [], vs => by
    constructor
    · intro h
      have h : vs = [] := h
      subst h
      exact .nil
    · intro h
      cases h
      rfl
  | p :: r, vs => by
    constructor
    · intro h
      obtain ⟨v, ws, rfl, h1, h2⟩ := h
      exact .cons h1 (tatL.mp h2)
    · intro h
      cases h with
      | cons h1 h2 => exact ⟨_, _, rfl, h1, tatL.mpr h2⟩
theorem tat_mono {H H' : Hp} (s : SameT H H') : (∀ t v, TAt H t v → TAt H' t v) ∧ ∀ ps vs, TAtL H ps vs → TAtL H' ps vs := by
  refine tree_ind (fun n v h => h) (fun k ps ih v h => ?_) (fun v h => h) (fun p r h1 h2 v h => ?_)
  · obtain ⟨a, b, vs, rfl, e1, e2, h⟩ := h
    exact ⟨a, b, vs, rfl, s _ _ e1, s _ _ e2, ih _ h⟩
  · obtain ⟨v, ws, rfl, e1, e2⟩ := h
    exact ⟨v, ws, rfl, h1 _ e1, h2 _ e2⟩
theorem TAt.mono {H H' : Hp} {t : Tree} {v : V} (h : TAt H t v) (s : SameT H H') : TAt H' t v := (tat_mono s).1 t v h
/-- parts -/
abbrev PAt (H : Hp) (ps : List Tree) (vs : List V) : Prop := F2 (TAt H) ps vs
theorem PAt.mono {H H' : Hp} {ps : List Tree} {vs : List V} (h : PAt H ps vs) (s : SameT H H') : PAt H' ps vs := F2.mono h fun _ _ x => x.mono s
theorem TAt.trip {H : Hp} {k : Int} {ps : List Tree} {v : V} (h : TAt H (.trip k ps) v) : ∃ a b vs, v = .ref a ∧ H a = some (.tup [.int k, .ref b]) ∧ H b = some (.tup vs) ∧ PAt H ps vs := by
  obtain ⟨a, b, vs, e, e1, e2, h⟩ := h
  exact ⟨a, b, vs, e, e1, e2, tatL.mp h⟩
theorem TAt.mk {H : Hp} {k : Int} {ps : List Tree} {a b : Addr} {vs : List V} (e1 : H a = some (.tup [.int k, .ref b])) (e2 : H b = some (.tup vs)) (h : PAt H ps vs) : TAt H (.trip k ps) (.ref a) := ⟨a, b, vs, rfl, e1, e2, tatL.mpr h⟩
/-- a button or a trip -/
theorem TAt.cases {H : Hp} {t : Tree} {v : V} (h : TAt H t v) : (∃ n, t = .btn n ∧ v = .int n) ∨ ∃ k ps a b vs, t = .trip k ps ∧ v = .ref a ∧ H a = some (.tup [.int k, .ref b]) ∧ H b = some (.tup vs) ∧ PAt H ps vs := by
  cases t with
  | btn n => exact .inl ⟨n, rfl, h⟩
  | trip k ps =>
    obtain ⟨a, b, vs, e⟩ := h.trip
    exact .inr ⟨k, ps, a, b, vs, rfl, e⟩
/-- rows of a scale: pairs of ints -/
def RowAt (H : Hp) (p : Int × Int) (v : V) : Prop := ∃ a, v = .ref a ∧ H a = some (.tup [.int p.1, .int p.2])
def ScAt (H : Hp) (rows : List (Int × Int)) (bound : Int) (v : V) : Prop := ∃ a b vs, v = .ref a ∧ H a = some (.tup [.ref b, .int bound]) ∧ H b = some (.tup vs) ∧ F2 (RowAt H) rows vs
theorem RowAt.mono {H H' : Hp} (s : SameT H H') {p : Int × Int} {v : V} (h : RowAt H p v) : RowAt H' p v := by
  obtain ⟨a, e, h⟩ := h
  exact ⟨a, e, s _ _ h⟩
theorem rows_mono {H H' : Hp} (s : SameT H H') {ps : List (Int × Int)} {vs : List V} (h : F2 (RowAt H) ps vs) : F2 (RowAt H') ps vs := h.mono fun _ _ x => x.mono s
theorem ScAt.mono {H H' : Hp} (s : SameT H H') {rows : List (Int × Int)} {bound : Int} {v : V} (h : ScAt H rows bound v) : ScAt H' rows bound v := by
  obtain ⟨a, b, vs, e, h1, h2, h3⟩ := h
  exact ⟨a, b, vs, e, s _ _ h1, s _ _ h2, rows_mono s h3⟩
/-- a tuple of ints -/
def IT (H : Hp) (ns : List Int) (v : V) : Prop := ∃ a, v = .ref a ∧ H a = some (.tup (ns.map V.int))
theorem IT.mono {H H' : Hp} (s : SameT H H') {ns : List Int} {v : V} (h : IT H ns v) : IT H' ns v := by
  obtain ⟨a, e, h⟩ := h
  exact ⟨a, e, s _ _ h⟩
theorem its_mono {H H' : Hp} (s : SameT H H') {nss : List (List Int)} {vs : List V} (h : F2 (IT H) nss vs) : F2 (IT H') nss vs := h.mono fun _ _ x => x.mono s
/-- an event: press, let -/
abbrev Ev := Bool × Int
def word (b : Bool) : Str := if b then "press" else "let"
def EvAt (H : Hp) (e : Ev) (v : V) : Prop := ∃ a, v = .ref a ∧ H a = some (.tup [.str (word e.1), .int e.2])
def EvsAt (H : Hp) (es : List Ev) (v : V) : Prop := ∃ a vs, v = .ref a ∧ H a = some (.tup vs) ∧ F2 (EvAt H) es vs
theorem EvAt.mono {H H' : Hp} (s : SameT H H') {e : Ev} {v : V} (h : EvAt H e v) : EvAt H' e v := by
  obtain ⟨a, z, h⟩ := h
  exact ⟨a, z, s _ _ h⟩
theorem evs_mono {H H' : Hp} (s : SameT H H') {es : List Ev} {vs : List V} (h : F2 (EvAt H) es vs) : F2 (EvAt H') es vs := h.mono fun _ _ x => x.mono s
theorem EvsAt.mono {H H' : Hp} (s : SameT H H') {es : List Ev} {v : V} (h : EvsAt H es v) : EvsAt H' es v := by
  obtain ⟨a, vs, e, h1, h2⟩ := h
  exact ⟨a, vs, e, s _ _ h1, evs_mono s h2⟩

/-! ### sizes -/
theorem le_line {n : Nat} (h : n ≤ 100000) : n ≤ sizeLine := Nat.le_trans h (by decide)
theorem lt_line {n : Nat} (h : n ≤ 100000) : n < sizeLine := Nat.lt_of_le_of_lt h (by decide)

/-! ### built-ins by name -/
theorem b_isinstance : bootBuiltins "isinstance" = some (.builtin "isinstance") := by decide +kernel
theorem b_len : bootBuiltins "len" = some (.builtin "len") := by decide +kernel
theorem b_sorted : bootBuiltins "sorted" = some (.builtin "sorted") := by decide +kernel
theorem b_sum : bootBuiltins "sum" = some (.builtin "sum") := by decide +kernel
theorem b_abs : bootBuiltins "abs" = some (.builtin "abs") := by decide +kernel
theorem b_max : bootBuiltins "max" = some (.builtin "max") := by decide +kernel
theorem b_min : bootBuiltins "min" = some (.builtin "min") := by decide +kernel
theorem b_repr : bootBuiltins "repr" = some (.builtin "repr") := by decide +kernel
theorem b_tuple : bootBuiltins "tuple" = some (.type "tuple") := by decide +kernel
theorem b_list : bootBuiltins "list" = some (.type "list") := by decide +kernel
theorem b_int : bootBuiltins "int" = some (.type "int") := by decide +kernel
theorem b_range : bootBuiltins "range" = some (.type "range") := by decide +kernel
theorem b_enumerate : bootBuiltins "enumerate" = some (.type "enumerate") := by decide +kernel
theorem b_zip : bootBuiltins "zip" = some (.type "zip") := by decide +kernel
theorem b_reversed : bootBuiltins "reversed" = some (.type "reversed") := by decide +kernel
/-! ### rules with the written part named -/
section
variable {X : Cx} {K : PySem.W.Frag}
theorem ix_tupK (h : X.K = K := by rfl) : IxR X (rIxT K) := h ▸ ix_tup
theorem ix_listK (h : X.K = K := by rfl) : IxR X (rIxL K) := h ▸ ix_list
theorem call_isiK' (h : X.K = K := by rfl) : CallR X (.builtin "isinstance") (rIsi K) := h ▸ call_isi
theorem op_inK (h : X.K = K := by rfl) : OpR X (compareOp .In) (rIn K false) := h ▸ op_in_seq
theorem op_notinK (h : X.K = K := by rfl) : OpR X (compareOp .NotIn) (rIn K true) := h ▸ op_notIn_seq
theorem op_catK (h : X.K = K := by rfl) : OpR X (binaryOp .Add) (rCatA K) := h ▸ op_catA
def rLenQ (K : PySem.W.Frag) : List V → Hp → VK → Prop := fun xs H Q => ∃ p ys, xs = [.ref p] ∧ (SqL K H p ys ∨ SqT K H p ys) ∧ Q (.int ys.length) H
theorem call_lenK (h : X.K = K := by rfl) : CallR X (.builtin "len") (rLenQ K) := h ▸ call_len_seq
theorem mt_extendTK (h : X.K = K := by rfl) : MtM X "list.extend" (rExtendT K) := h ▸ mt_extendT
theorem op_neDK (hu : X.A.units + 64 < cLine) (h : X.K = K := by rfl) : OpR X (compareOp .NotEq) (rNeD K) := h ▸ op_neD hu
theorem op_eqDK (hu : X.A.units + 64 < cLine) (h : X.K = K := by rfl) : OpR X (compareOp .Eq) (rEqD K) := h ▸ op_eqD hu
theorem pi_listK {tg l : Expr} {tl : TE} (hl : PE X l tl) (h : X.K = K := by rfl) : PI X tg l (iList K tl) := h ▸ pi_list hl
theorem pi_tupK {tg l : Expr} {tl : TE} (hl : PE X l tl) (h : X.K = K := by rfl) : PI X tg l (iTup K tl) := h ▸ pi_tup hl
theorem pg_tupK {es : List Expr} {k : Nat} {t : TGs} {n : Nat} {pos : Pos} (hc : X.calm = true) (h : PGs X es t) (hn : (assignEach es X.env).length = n := by rfl) (hst : (assignEach es X.env).findIdx? (·.1) = none := by rfl) (hk : X.K = K := by rfl) : PG X (.Tuple es k pos) (gTup K n t) := by
  subst hk
  exact pg_tup hc h hn hst
end
end K94

/-! K94D1: is_trip, goes, scale_goes; the law's own does, weighs. -/
namespace K94
open PySem L2 PySem.Spec PyProof.Rows
theorem inV_ints (n : Int) : ∀ ns : List Int, inV (.int n) (ns.map V.int) = mem ns n
  | [] => rfl
  | m :: r => by
    have ih := inV_ints n r
    unfold inV mem at *
    rw [List.map_cons, List.any_cons, ih]
    by_cases e : n = m
    · subst e
      simp [eqV]
    · have e' : ¬ m = n := fun z => e z.symm
      simp [eqV, e, e']
theorem flat_ints (ns : List Int) : (ns.map V.int).all flatV = true := by
  rw [List.all_map]
  exact List.all_eq_true.mpr fun _ _ => rfl
theorem parts_1000 {k : Int} {ps : List Tree} (ok : Ok (.trip k ps)) (h : (btns (.trip k ps)).length ≤ 1000) : ps.length ≤ 1000 := Nat.le_trans (parts_le ok) h
theorem part_btns {ps : List Tree} {p : Tree} (h : p ∈ ps) : (btns p).length ≤ (btnsL ps).length := by
  induction ps with
  | nil => cases h
  | cons q r ih =>
    simp only [btnsL, List.length_append]
    rcases List.mem_cons.mp h with e | e
    · subst e; omega
    · have := ih e; omega
theorem part_dep {ps : List Tree} {p : Tree} (h : p ∈ ps) : dep p ≤ depL ps := depL_le.mp (Nat.le_refl _) p h
theorem filter_succ {α : Type} (f : α → Bool) {ps : List α} {i : Nat} {p : α} (h : ps[i]? = some p) : (ps.take (i + 1)).filter f = (ps.take i).filter f ++ if f p = true then [p] else [] := by
  rw [List.take_add_one, h, List.filter_append]
  simp [List.filter_cons]
theorem filter_take_le {α : Type} (f : α → Bool) (ps : List α) (i : Nat) : ((ps.take i).filter f).length ≤ i := Nat.le_trans (List.length_filter_le _ _) (List.length_take_le _ _)
def spIsTrip : Sp := fun vs H Q _ => ∃ v, vs = [v] ∧ ((∃ n, v = .int n ∧ Q (.bl false) H) ∨ ∃ a xs, v = .ref a ∧ H a = some (.tup xs) ∧ Q (.bl true) H)
def spGoes (d : Nat) : Sp := fun vs H Q _ => ∃ t v l ns, vs = [v, l] ∧ TAt H t v ∧ Ok t ∧ dep t < d ∧ (btns t).length ≤ 1000 ∧ IT H ns l ∧ ∀ H', Same H H' → Q (.bl (goes (mem ns) t)) H'
def spScaleGoes : Sp := fun vs H Q _ => ∃ rows bound v l ns, vs = [v, l] ∧ ScAt H rows bound v ∧ rows.length ≤ 1000 ∧ IT H ns l ∧ ∀ H', Same H H' → Q (.bl (decide (bound ≤ sumw (mem ns) rows))) H'
theorem sumw_filter (L : Lot) : ∀ rows : List (Int × Int), ((rows.filter fun p => L p.1).map Prod.snd).sum = sumw L rows
  | [] => rfl
  | (b, x) :: r => by
    have ih := sumw_filter L r
    simp only [sumw, ← ih, List.filter_cons]
    by_cases e : L b = true
    · simp [e]
    · simp [e]
section
variable {mg : Str → Option Value} {K : PySem.W.Frag} {P : Program} {w : World} {base : Heap}
theorem pr_is_trip (T : Txt K mg) : Pr P w K mg base "is_trip" ["tree"] 1 spIsTrip := by
  refine T.is_trip.pr sc_is_trip (fun _ _ _ _ _ _ us hl => match us, hl with | [_], _ => rfl) (fun vs H Q E h => ?_) (fun cdv A outer s H vs Q E hr h => ?_)
  · obtain ⟨v, rfl, _⟩ := h
    rfl
  · obtain ⟨v, rfl, h⟩ := h
    refine ⟨_, (pss_one (ps_ret (pe_callB (call_isiK' (K := K)) (by rfl) T.m_isinstance b_isinstance (pa_cons (pv 0) (pa_cons (pe_bltn (v := .ty "tuple") (by rfl) T.m_tuple b_tuple rfl) pa_nil))))), ?_⟩
    refine ⟨_, rfl, ?_⟩
    rcases h with ⟨n, rfl, q⟩ | ⟨a, xs, rfl, e, q⟩
    · exact isi_of (.base (.int n)) (by decide +kernel) q
    · exact isi_of (.base (.tup e)) (by decide +kernel) q
theorem pr_goes (T : Txt K mg) : ∀ d : Nat, Pr P w K mg base "goes" ["tree", "lot"] (d + 1) (spGoes d)
  | 0 => T.goes.none (fun _ _ _ _ _ _ us hl => match us, hl with | [_, _], _ => rfl) fun vs H Q E h => by
    obtain ⟨t, v, l, ns, _, _, _, h, _⟩ := h
    exact (Nat.not_lt_zero _ h).elim
  | d + 1 => by
    have G_is_trip := pr_is_trip (P := P) (w := w) (base := base) T
    have G_goes := pr_goes T d
    refine T.goes.pr sc_goes (fun _ _ _ _ _ _ us hl => match us, hl with | [_, _], _ => rfl) (fun vs H Q E h => ?_) (fun cdv A outer s H vs Q E hr h => ?_)
    · obtain ⟨t, v, l, ns, rfl, _⟩ := h
      rfl
    · obtain ⟨t, v, l, ns, rfl, hT, hok, hd, hb, hL, q⟩ := h
      refine ⟨_, (pss_cons (ps_if (pt_not (pt_val (pe_pr G_is_trip (hr.mono (by omega)) (pa_cons (pv 0) pa_nil)))) (pss_one (ps_ret (pe_cmpR (op_inK (K := K)) (pv 0) (pv 1) (by rfl)))) pss_nil)
 (pss_one (ps_ret (pe_cmpR op_ge (pe_callB (call_lenK (K := K)) (by rfl) T.m_len b_len (pa_cons (pe_lc (own := [("part", 2)]) (g := gName 2) (by rfl) sc_goes.nd (pi_tupK (K := K) (pe_ix (ix_tupK (K := K)) (pv 0) pe_int (fun _ _ => rfl))) (blkOk_by (own := [("part", 2)]) (N := ["tree", "lot", "part"]) (sc := defScope s_goes) (by decide +kernel)) (fun _ _ _ _ _ => (pg_name (i := 2) sc_goes.nd rfl (Or.inl rfl))) (fun _ _ _ _ _ => (pts_one (pt_val (pe_pr G_goes (hr.mono (by omega)) (pa_cons (pv 2) (pa_cons (pv 1) pa_nil)))))) (fun _ _ _ _ _ => pe_int)) pa_nil)) (pe_ix (ix_tupK (K := K)) (pv 0) pe_int (fun _ _ => rfl)) (nomark _))))), ?_⟩
      rcases hT.cases with ⟨n, rfl, rfl⟩ | ⟨k, ps, a, b, vs, rfl, rfl, e1, e2, hP⟩
      · refine ⟨_, rfl, _, rfl, .inl ⟨n, rfl, _, rfl, iteT ?_⟩⟩
        obtain ⟨la, rfl, eL⟩ := hL
        refine ⟨_, rfl, _, rfl, la, _, rfl, .inr (.inl (.inl eL)), rfl, flat_ints ns, ?_⟩
        rw [inV_ints]
        exact q H (Same.refl H)
      · refine ⟨_, rfl, _, rfl, .inr ⟨a, _, rfl, e1, _, rfl, iteF ?_⟩⟩
        have hlen := hP.len
        have h1000 := parts_1000 hok hb
        refine ⟨_, rfl, a, _, 1, .ref b, rfl, rfl, SqT.of e1, rfl, b, rfl, ⟨vs, SqT.of e2⟩, fun D nD => lc_tup (K := K) (a := b) (xs := vs) (fun i H1 => Same H H1 ∧ ∃ acc, H1 D = some (.lst acc) ∧ acc.length = ((ps.take i).filter (goes (mem ns))).length)
          ⟨same_upd nD _, [], upd_same, rfl⟩ (fun i H1 _ h => SqT.of (h.1 _ _ e2)) (fun i x H1 hx h => ?_) (fun H1 h => ?_)⟩
        · obtain ⟨s1, acc, eD, el⟩ := h
          obtain ⟨p, hp, hT1⟩ := hP.get hx
          have hm : p ∈ ps := List.mem_of_getElem? hp
          have hi : i < ps.length := (List.getElem?_eq_some_iff.mp hp).1
          have hdp := part_dep hm
          have hbp := part_btns hm
          simp only [dep] at hd
          simp only [btns] at hb
          refine ⟨rfl, _, rfl, _, rfl, p, x, l, ns, rfl, hT1.mono s1.T, okL_iff.mp hok.2.2 p hm, by omega, by omega, hL.mono s1.T, fun H2 s2 => ⟨_, rfl, ?_⟩⟩
          have sp := filter_succ (goes (mem ns)) hp
          have hz := filter_take_le (goes (mem ns)) ps i
          refine ite2 (fun hg => ?_) (fun hg => ?_)
          · rw [if_pos hg] at sp
            exact ⟨acc, s2 _ _ eD, lt_line (by omega), (s1.trans s2).upd nD _, _, upd_same, by rw [sp, List.length_append, List.length_append, el]; rfl⟩
          · rw [if_neg hg, List.append_nil] at sp
            exact ⟨s1.trans s2, acc, s2 _ _ eD, by rw [sp]; exact el⟩
        · obtain ⟨s1, acc, eD, el⟩ := h
          refine ⟨D, acc, rfl, .inl (SqL.of eD), _, rfl, a, _, 0, .int k, rfl, rfl, SqT.of (s1 _ _ e1), rfl, _, _, rfl, rfl, ?_⟩
          have e : goes (mem ns) (.trip k ps) = decide (k ≤ (acc.length : Int)) := by
            rw [goes_trip, el, ← hlen, List.take_length, cnt_filter]
          show Q (.bl (decide (k ≤ (acc.length : Int)))) H1
          rw [← e]
          exact q H1 s1
theorem pr_does (T : Txt K mg) : ∀ d : Nat, Pr P w K mg base "_law_does" ["_law_tree_here", "_law_lot"] (d + 1) (spGoes d)
  | 0 => T.l_does.none (fun _ _ _ _ _ _ us hl => match us, hl with | [_, _], _ => rfl) fun vs H Q E h => by
    obtain ⟨t, v, l, ns, _, _, _, h, _⟩ := h
    exact (Nat.not_lt_zero _ h).elim
  | d + 1 => by
    have G_l_does := pr_does T d
    refine T.l_does.pr sc_l_does (fun _ _ _ _ _ _ us hl => match us, hl with | [_, _], _ => rfl) (fun vs H Q E h => ?_) (fun cdv A outer s H vs Q E hr h => ?_)
    · obtain ⟨t, v, l, ns, rfl, _⟩ := h
      rfl
    · obtain ⟨t, v, l, ns, rfl, hT, hok, hd, hb, hL, q⟩ := h
      refine ⟨_, (pss_cons (ps_if (pt_val (pe_callB (call_isiK' (K := K)) (by rfl) T.m_isinstance b_isinstance (pa_cons (pv 0) (pa_cons (pe_bltn (v := .ty "int") (by rfl) T.m_int b_int rfl) pa_nil)))) (pss_one (ps_ret (pe_cmpR (op_inK (K := K)) (pv 0) (pv 1) (by rfl)))) pss_nil)
 (pss_one (ps_ret (pe_cmpR op_ge (pe_callB (call_lenK (K := K)) (by rfl) T.m_len b_len (pa_cons (pe_lc (own := [("_law_part", 2)]) (g := gName 2) (by rfl) sc_l_does.nd (pi_tupK (K := K) (pe_ix (ix_tupK (K := K)) (pv 0) pe_int (fun _ _ => rfl))) (blkOk_by (own := [("_law_part", 2)]) (N := ["_law_tree_here", "_law_lot", "_law_part"]) (sc := defScope s_l_does) (by decide +kernel)) (fun _ _ _ _ _ => (pg_name (i := 2) sc_l_does.nd rfl (Or.inl rfl))) (fun _ _ _ _ _ => (pts_one (pt_val (pe_pr G_l_does (hr.mono (by omega)) (pa_cons (pv 2) (pa_cons (pv 1) pa_nil)))))) (fun _ _ _ _ _ => pe_int)) pa_nil)) (pe_ix (ix_tupK (K := K)) (pv 0) pe_int (fun _ _ => rfl)) (nomark _))))), ?_⟩
      rcases hT.cases with ⟨n, rfl, rfl⟩ | ⟨k, ps, a, b, vs, rfl, rfl, e1, e2, hP⟩
      · refine ⟨_, rfl, ⟨_, _, .type "int", .type "int", true, rfl, .ty "int", .base (.int n), kit_ty (by decide +kernel), _, rfl, iteT ?_⟩⟩
        obtain ⟨la, rfl, eL⟩ := hL
        refine ⟨_, rfl, _, rfl, la, _, rfl, .inr (.inl (.inl eL)), rfl, flat_ints ns, ?_⟩
        rw [inV_ints]
        exact q H (Same.refl H)
      · refine ⟨_, rfl, ⟨_, _, .type "tuple", .type "int", false, rfl, .ty "int", .base (.tup e1), kit_ty (by decide +kernel), _, rfl, iteF ?_⟩⟩
        have hlen := hP.len
        have h1000 := parts_1000 hok hb
        refine ⟨_, rfl, a, _, 1, .ref b, rfl, rfl, SqT.of e1, rfl, b, rfl, ⟨vs, SqT.of e2⟩, fun D nD => lc_tup (K := K) (a := b) (xs := vs) (fun i H1 => Same H H1 ∧ ∃ acc, H1 D = some (.lst acc) ∧ acc.length = ((ps.take i).filter (goes (mem ns))).length)
          ⟨same_upd nD _, [], upd_same, rfl⟩ (fun i H1 _ h => SqT.of (h.1 _ _ e2)) (fun i x H1 hx h => ?_) (fun H1 h => ?_)⟩
        · obtain ⟨s1, acc, eD, el⟩ := h
          obtain ⟨p, hp, hT1⟩ := hP.get hx
          have hm : p ∈ ps := List.mem_of_getElem? hp
          have hi : i < ps.length := (List.getElem?_eq_some_iff.mp hp).1
          have hdp := part_dep hm
          have hbp := part_btns hm
          simp only [dep] at hd
          simp only [btns] at hb
          refine ⟨rfl, _, rfl, _, rfl, p, x, l, ns, rfl, hT1.mono s1.T, okL_iff.mp hok.2.2 p hm, by omega, by omega, hL.mono s1.T, fun H2 s2 => ⟨_, rfl, ?_⟩⟩
          have sp := filter_succ (goes (mem ns)) hp
          have hz := filter_take_le (goes (mem ns)) ps i
          refine ite2 (fun hg => ?_) (fun hg => ?_)
          · rw [if_pos hg] at sp
            exact ⟨acc, s2 _ _ eD, lt_line (by omega), (s1.trans s2).upd nD _, _, upd_same, by rw [sp, List.length_append, List.length_append, el]; rfl⟩
          · rw [if_neg hg, List.append_nil] at sp
            exact ⟨s1.trans s2, acc, s2 _ _ eD, by rw [sp]; exact el⟩
        · obtain ⟨s1, acc, eD, el⟩ := h
          refine ⟨D, acc, rfl, .inl (SqL.of eD), _, rfl, a, _, 0, .int k, rfl, rfl, SqT.of (s1 _ _ e1), rfl, _, _, rfl, rfl, ?_⟩
          have e : goes (mem ns) (.trip k ps) = decide (k ≤ (acc.length : Int)) := by
            rw [goes_trip, el, ← hlen, List.take_length, cnt_filter]
          show Q (.bl (decide (k ≤ (acc.length : Int)))) H1
          rw [← e]
          exact q H1 s1
theorem pr_scale_goes (T : Txt K mg) : Pr P w K mg base "scale_goes" ["scale", "lot"] 1 spScaleGoes := by
  refine T.scale_goes.pr sc_scale_goes (fun _ _ _ _ _ _ us hl => match us, hl with | [_, _], _ => rfl) (fun vs H Q E h => ?_) (fun cdv A outer s H vs Q E hr h => ?_)
  · obtain ⟨rows, bound, v, l, ns, rfl, _⟩ := h
    rfl
  · obtain ⟨rows, bound, v, l, ns, rfl, ⟨a, b, vs, rfl, e1, e2, hR⟩, hz, ⟨la, rfl, eL⟩, q⟩ := h
    refine ⟨_, (pss_cons (ps_asg (pv 0) (pg_tupK (K := K) rfl (pgs_cons (pg_name (i := 2) sc_scale_goes.nd rfl (Or.inl rfl)) (pgs_cons (pg_name (i := 3) sc_scale_goes.nd rfl (Or.inl rfl)) pgs_nil))))
 (pss_one (ps_ret (pe_cmpR op_ge (pe_callB (cr_sum rfl) (by rfl) T.m_sum b_sum (pa_cons (pe_lc (own := [("button", 4), ("weight", 5)]) (g := gTup K 2 (gCons (gName 4) (gCons (gName 5) gNil))) (by rfl) sc_scale_goes.nd (pi_tupK (K := K) (pv 2)) (blkOk_by (own := [("button", 4), ("weight", 5)]) (N := ["scale", "lot", "rows", "bound", "button", "weight"]) (sc := defScope s_scale_goes) (by decide +kernel)) (fun _ _ _ _ _ => (pg_tupK (K := K) rfl (pgs_cons (pg_name (i := 4) sc_scale_goes.nd rfl (Or.inl rfl)) (pgs_cons (pg_name (i := 5) sc_scale_goes.nd rfl (Or.inl rfl)) pgs_nil)))) (fun _ _ _ _ _ => (pts_one (pt_cmpR (op_inK (K := K)) (pv 4) (pv 1) (by rfl)))) (fun _ _ _ _ _ => (pv 5))) pa_nil)) (pv 3) (nomark _))))), ?_⟩
    have hlen := hR.len
    refine ⟨_, rfl, a, _, rfl, SqT.of e1, rfl, _, _, rfl, _, _, rfl, rfl, ?_⟩
    refine ⟨_, rfl, b, rfl, ⟨vs, SqT.of e2⟩, fun D nD => lc_tup (K := K) (a := b) (xs := vs) (fun i H1 => Same H H1 ∧ H1 D = some (.lst ((((rows.take i).filter fun p => mem ns p.1).map Prod.snd).map V.int)))
          ⟨same_upd nD _, upd_same⟩ (fun i H1 _ h => SqT.of (h.1 _ _ e2)) (fun i x H1 hx h => ?_) (fun H1 h => ?_)⟩
    · obtain ⟨s1, eD⟩ := h
      obtain ⟨p, hp, c, rfl, ec⟩ := hR.get hx
      have hi : i < rows.length := (List.getElem?_eq_some_iff.mp hp).1
      have sp := filter_succ (fun p : Int × Int => mem ns p.1) hp
      have hz := filter_take_le (fun p : Int × Int => mem ns p.1) rows i
      refine ⟨c, _, rfl, SqT.of (s1 _ _ ec), rfl, _, _, rfl, _, _, rfl, rfl, rfl, _, rfl, _, rfl, la, _, rfl, .inr (.inl (.inl (s1 _ _ eL))), rfl, flat_ints ns, _, rfl, ?_⟩
      rw [inV_ints]
      refine ite2 (fun hg => ?_) (fun hg => ?_)
      · have hg : mem ns p.1 = true := hg
        rw [if_pos hg] at sp
        refine ⟨_, rfl, _, eD, lt_line (by rw [List.length_map, List.length_map]; omega), s1.upd nD _, ?_⟩
        rw [upd_same, sp, List.map_append, List.map_append]
        rfl
      · have hg : ¬ mem ns p.1 = true := hg
        rw [if_neg hg, List.append_nil] at sp
        exact ⟨s1, by rw [sp]; exact eD⟩
    · obtain ⟨s1, eD⟩ := h
      rw [← hlen, List.take_length] at eD
      refine ⟨D, _, rfl, SqL.of eD, _, rfl, _, _, rfl, rfl, ?_⟩
      rw [sumw_filter]
      exact q H1 s1
theorem pr_weighs (T : Txt K mg) : Pr P w K mg base "_law_weighs" ["_law_scale_here", "_law_lot"] 1 spScaleGoes := by
  refine T.l_weighs.pr sc_l_weighs (fun _ _ _ _ _ _ us hl => match us, hl with | [_, _], _ => rfl) (fun vs H Q E h => ?_) (fun cdv A outer s H vs Q E hr h => ?_)
  · obtain ⟨rows, bound, v, l, ns, rfl, _⟩ := h
    rfl
  · obtain ⟨rows, bound, v, l, ns, rfl, ⟨a, b, vs, rfl, e1, e2, hR⟩, hz, ⟨la, rfl, eL⟩, q⟩ := h
    refine ⟨_, (pss_one (ps_ret (pe_cmpR op_ge (pe_callB (cr_sum rfl) (by rfl) T.m_sum b_sum (pa_cons (pe_lc (own := [("_law_button", 2), ("_law_weight", 3)]) (g := gTup K 2 (gCons (gName 2) (gCons (gName 3) gNil))) (by rfl) sc_l_weighs.nd (pi_tupK (K := K) (pe_ix (ix_tupK (K := K)) (pv 0) pe_int (fun _ _ => rfl))) (blkOk_by (own := [("_law_button", 2), ("_law_weight", 3)]) (N := ["_law_scale_here", "_law_lot", "_law_button", "_law_weight"]) (sc := defScope s_l_weighs) (by decide +kernel)) (fun _ _ _ _ _ => (pg_tupK (K := K) rfl (pgs_cons (pg_name (i := 2) sc_l_weighs.nd rfl (Or.inl rfl)) (pgs_cons (pg_name (i := 3) sc_l_weighs.nd rfl (Or.inl rfl)) pgs_nil)))) (fun _ _ _ _ _ => (pts_one (pt_cmpR (op_inK (K := K)) (pv 2) (pv 1) (by rfl)))) (fun _ _ _ _ _ => (pv 3))) pa_nil)) (pe_ix (ix_tupK (K := K)) (pv 0) pe_int (fun _ _ => rfl)) (nomark _)))), ?_⟩
    have hlen := hR.len
    refine ⟨_, rfl, a, _, 0, .ref b, rfl, rfl, SqT.of e1, rfl, b, rfl, ⟨vs, SqT.of e2⟩, fun D nD => lc_tup (K := K) (a := b) (xs := vs) (fun i H1 => Same H H1 ∧ H1 D = some (.lst ((((rows.take i).filter fun p => mem ns p.1).map Prod.snd).map V.int)))
          ⟨same_upd nD _, upd_same⟩ (fun i H1 _ h => SqT.of (h.1 _ _ e2)) (fun i x H1 hx h => ?_) (fun H1 h => ?_)⟩
    · obtain ⟨s1, eD⟩ := h
      obtain ⟨p, hp, c, rfl, ec⟩ := hR.get hx
      have hi : i < rows.length := (List.getElem?_eq_some_iff.mp hp).1
      have sp := filter_succ (fun p : Int × Int => mem ns p.1) hp
      have hz := filter_take_le (fun p : Int × Int => mem ns p.1) rows i
      refine ⟨c, _, rfl, SqT.of (s1 _ _ ec), rfl, _, _, rfl, _, _, rfl, rfl, rfl, _, rfl, _, rfl, la, _, rfl, .inr (.inl (.inl (s1 _ _ eL))), rfl, flat_ints ns, _, rfl, ?_⟩
      rw [inV_ints]
      refine ite2 (fun hg => ?_) (fun hg => ?_)
      · have hg : mem ns p.1 = true := hg
        rw [if_pos hg] at sp
        refine ⟨_, rfl, _, eD, lt_line (by rw [List.length_map, List.length_map]; omega), s1.upd nD _, ?_⟩
        rw [upd_same, sp, List.map_append, List.map_append]
        rfl
      · have hg : ¬ mem ns p.1 = true := hg
        rw [if_neg hg, List.append_nil] at sp
        exact ⟨s1, by rw [sp]; exact eD⟩
    · obtain ⟨s1, eD⟩ := h
      rw [← hlen, List.take_length] at eD
      refine ⟨D, _, rfl, SqL.of eD, _, rfl, a, _, 1, .int bound, rfl, rfl, SqT.of (s1 _ _ e1), rfl, _, _, rfl, rfl, ?_⟩
      rw [sumw_filter]
      exact q H1 s1
end
end K94

/-! K94D2: buttons_of, need_buttons, pressed_lots, run, run_scale. -/
namespace K94
open PySem L2 PySem.Spec PyProof.Rows
theorem btnsL_take {ps : List Tree} {i : Nat} {p : Tree} (h : ps[i]? = some p) : btnsL (ps.take (i + 1)) = btnsL (ps.take i) ++ btns p := by
  rw [List.take_add_one, h, btnsL_append]
  simp [btnsL]
theorem btnsL_take_le (ps : List Tree) (i : Nat) : (btnsL (ps.take i)).length ≤ (btnsL ps).length := by
  have h : btnsL ps = btnsL (ps.take i) ++ btnsL (ps.drop i) := by rw [← btnsL_append, List.take_append_drop]
  rw [h, List.length_append]
  exact Nat.le_add_right _ _
/-! ### the dict of the pressed -/
structure KvOf (kvs : List (Key × V)) (L : Lot) : Prop where
  int : ∀ p ∈ kvs, ∃ n, p.1 = Sum.inl n
  at_ : ∀ b : Int, (valV kvs (Sum.inl b)).isSome = L b
theorem putK_mem {kvs : List (Key × V)} {k : Key} {v : V} {p : Key × V} (h : p ∈ putK kvs k v) : p.1 = k ∨ ∃ q ∈ kvs, q.1 = p.1 := by
  unfold putK at h
  split at h
  · obtain ⟨q, hq, e⟩ := List.mem_map.mp h
    right
    refine ⟨q, hq, ?_⟩
    split at e <;> rw [← e]
  · rcases List.mem_append.mp h with h | h
    · exact .inr ⟨p, h, rfl⟩
    · left
      have : p = (k, v) := by simpa using h
      rw [this]
theorem putK_len (kvs : List (Key × V)) (k : Key) (v : V) : (putK kvs k v).length ≤ kvs.length + 1 := by
  unfold putK
  split
  · rw [List.length_map]; omega
  · rw [List.length_append]; simp
theorem valV_dropK (k j : Key) : ∀ kvs : List (Key × V), valV (dropK kvs k) j = if j = k then none else valV kvs j
  | [] => by simp [dropK, valV]
  | p :: r => by
    have ih := valV_dropK k j r
    by_cases e : p.1 = k
    · rw [dropK_pos e, ih]
      by_cases h : j = k
      · rw [if_pos h, if_pos h]
      · rw [if_neg h, if_neg h, valV_neg fun z => h (z.symm.trans e)]
    · rw [dropK_neg e]
      by_cases h : p.1 = j
      · rw [valV_pos h, valV_pos h, if_neg fun z => e (h.trans z)]
      · rw [valV_neg h, valV_neg h, ih]
theorem KvOf.nil : KvOf [] noLot := ⟨fun p h => (by cases h), fun b => rfl⟩
theorem KvOf.put {kvs : List (Key × V)} {L : Lot} (h : KvOf kvs L) (n : Int) (v : V) : KvOf (putK kvs (Sum.inl n) v) (stp L (true, n)) := by
  refine ⟨fun p hp => ?_, fun b => ?_⟩
  · rcases putK_mem hp with e | ⟨q, hq, e⟩
    · exact ⟨n, e⟩
    · obtain ⟨m, em⟩ := h.int q hq
      exact ⟨m, e ▸ em⟩
  · rw [valV_put]
    by_cases e : b = n
    · subst e
      simp [stp]
    · rw [if_neg fun z => e (Sum.inl.inj z), h.at_ b]
      simp [stp, e]
theorem KvOf.drop {kvs : List (Key × V)} {L : Lot} (h : KvOf kvs L) (n : Int) : KvOf (dropK kvs (Sum.inl n)) (stp L (false, n)) := by
  refine ⟨fun p hp => h.int p (dropK_mem hp), fun b => ?_⟩
  rw [valV_dropK]
  by_cases e : b = n
  · subst e
    simp [stp]
  · rw [if_neg fun z => e (Sum.inl.inj z), h.at_ b]
    simp [stp, e]
theorem KvOf.stay {kvs : List (Key × V)} {L : Lot} (h : KvOf kvs L) {n : Int} (e : L n = false) : KvOf kvs (stp L (false, n)) := by
  refine ⟨h.int, fun b => ?_⟩
  rw [h.at_ b]
  by_cases c : b = n
  · subst c
    simp [stp, e]
  · simp [stp, c]
theorem KvOf.keys {kvs : List (Key × V)} {L : Lot} (h : KvOf kvs L) : ∃ ns : List Int, (kvs.map fun kv => kV kv.1) = ns.map V.int ∧ mem ns = L := by
  have key : ∀ kvs : List (Key × V), (∀ p ∈ kvs, ∃ n, p.1 = Sum.inl n) → ∃ ns : List Int, (kvs.map fun kv => kV kv.1) = ns.map V.int ∧ ∀ b, b ∈ ns ↔ (valV kvs (Sum.inl b)).isSome = true := by
    intro kvs
    induction kvs with
    | nil => intro _; exact ⟨[], rfl, fun b => by simp [valV]⟩
    | cons p r ih =>
      intro hp
      obtain ⟨ns, e1, e2⟩ := ih fun q hq => hp q (by simp [hq])
      obtain ⟨n, en⟩ := hp p (by simp)
      refine ⟨n :: ns, by rw [List.map_cons, List.map_cons, e1, en]; rfl, fun b => ?_⟩
      rw [List.mem_cons, e2]
      by_cases c : b = n
      · subst c
        rw [valV_pos en]
        simp
      · rw [valV_neg (p := p) (fun z => c (Sum.inl.inj (z.symm.trans en)))]
        simp [c]
  obtain ⟨ns, e1, e2⟩ := key kvs h.int
  refine ⟨ns, e1, funext fun b => ?_⟩
  have := e2 b
  rw [h.at_ b] at this
  unfold mem
  cases c : L b with
  | true => exact decide_eq_true (this.mpr c)
  | false => exact decide_eq_false fun z => by rw [this.mp z] at c; cases c
theorem mem_perm {ns ms : List Int} (h : ns.Perm ms) : mem ns = mem ms := funext fun b => decide_eq_decide.mpr h.mem_iff

def spBio (d : Nat) : Sp := fun vs H Q _ => ∃ t v, vs = [v] ∧ TAt H t v ∧ Ok t ∧ dep t < d ∧ (btns t).length ≤ 1000 ∧ ∀ H' p, Same H H' → H p = none → H' p = some (.lst ((btns t).map V.int)) → Q (.ref p) H'
def spBo (d : Nat) : Sp := fun vs H Q _ => ∃ t v, vs = [v] ∧ TAt H t v ∧ Ok t ∧ dep t < d ∧ (btns t).length ≤ 1000 ∧ ∀ H' ns l, Same H H' → ns.Perm (btns t) → IT H' ns l → Q l H'
def spNeed : Sp := fun vs H Q _ => ∃ es ns v u, vs = [v, u] ∧ EvsAt H es v ∧ IT H ns u ∧ (∀ e ∈ es, e.2 ∈ ns) ∧ ∀ H', Same H H' → Q .non H'
def spPressed : Sp := fun vs H Q _ => ∃ es v, vs = [v] ∧ EvsAt H es v ∧ es.length ≤ 1000 ∧ ∀ H' p us (nss : List (List Int)), Same H H' → H' p = some (.lst us) → F2 (IT H') nss us → nss.map mem = sts noLot es → Q (.ref p) H'
/-- a tuple of bools, new -/
def BT (H : Hp) (bs : List Bool) (v : V) : Prop := ∃ a, v = .ref a ∧ H a = some (.tup (bs.map V.bl))
def spRun (d : Nat) : Sp := fun vs H Q _ => ∃ t es v u, vs = [v, u] ∧ TAt H t v ∧ Ok t ∧ dep t < d ∧ (btns t).length ≤ 1000 ∧ EvsAt H es u ∧ (∀ e ∈ es, e.2 ∈ btns t) ∧ es.length ≤ 1000 ∧
  ∀ H' b, Same H H' → BT H' ((sts noLot es).map fun L => goes L t) b → Q b H'
def spRunScale : Sp := fun vs H Q _ => ∃ rows bound es v u, vs = [v, u] ∧ ScAt H rows bound v ∧ rows.length ≤ 1000 ∧ EvsAt H es u ∧ (∀ e ∈ es, e.2 ∈ rows.map Prod.fst) ∧ es.length ≤ 1000 ∧
  ∀ H' b, Same H H' → BT H' ((sts noLot es).map fun L => decide (bound ≤ sumw L rows)) b → Q b H'
section
variable {mg : Str → Option Value} {K : PySem.W.Frag} {P : Program} {w : World} {base : Heap}
theorem pr_buttons_in_order (T : Txt K mg) : ∀ d : Nat, Pr P w K mg base "buttons_in_order" ["tree"] (d + 1) (spBio d)
  | 0 => T.buttons_in_order.none (fun _ _ _ _ _ _ us hl => match us, hl with | [_], _ => rfl) fun vs H Q E h => by
    obtain ⟨t, v, _, _, _, h, _⟩ := h
    exact (Nat.not_lt_zero _ h).elim
  | d + 1 => by
    have G_is_trip := pr_is_trip (P := P) (w := w) (base := base) T
    have G_buttons_in_order := pr_buttons_in_order T d
    refine T.buttons_in_order.pr sc_buttons_in_order (fun _ _ _ _ _ _ us hl => match us, hl with | [_], _ => rfl) (fun vs H Q E h => ?_) (fun cdv A outer s H vs Q E hr h => ?_)
    · obtain ⟨t, v, rfl, _⟩ := h
      rfl
    · obtain ⟨t, v, rfl, hT, hok, hd, hb, q⟩ := h
      refine ⟨_, (pss_cons (ps_if (pt_not (pt_val (pe_pr G_is_trip (hr.mono (by omega)) (pa_cons (pv 0) pa_nil)))) (pss_one (ps_ret (pe_lst (pa_cons (pv 0) pa_nil)))) pss_nil)
 (pss_cons (ps_set (i := 1) sc_buttons_in_order.nd rfl (Or.inl rfl) (pe_lst pa_nil))
 (pss_cons (ps_for PassesOwn.never rfl (pi_tupK (K := K) (pe_ix (ix_tupK (K := K)) (pv 0) pe_int (fun _ _ => rfl))) (pg_name (i := 2) sc_buttons_in_order.nd rfl (Or.inl rfl)) (pss_one (ps_expr (pe_bm PySem.F.plainAttrs_list PySem.F.slot_list_extend PySem.F.type_list_extend mt_extend (pv 1) (pa_cons (pe_pr G_buttons_in_order (hr.mono (by omega)) (pa_cons (pv 2) pa_nil)) pa_nil)))))
 (pss_one (ps_ret (pv 1)))))), ?_⟩
      rcases hT.cases with ⟨n, rfl, rfl⟩ | ⟨k, ps, a, b, vs, rfl, rfl, e1, e2, hP⟩
      · refine ⟨_, rfl, _, rfl, .inl ⟨n, rfl, _, rfl, iteT ?_⟩⟩
        exact ⟨_, rfl, le_line (by simp), fun p np => q _ p (same_upd np _) np upd_same⟩
      · refine ⟨_, rfl, _, rfl, .inr ⟨a, _, rfl, e1, _, rfl, iteF ?_⟩⟩
        have hlen := hP.len
        refine ⟨Nat.zero_le _, fun F nF => ?_⟩
        have s0 := same_upd (H := H) nF (.lst [])
        refine ⟨_, rfl, a, _, 1, .ref b, rfl, rfl, SqT.of (s0 _ _ e1), rfl, b, rfl, ⟨vs, SqT.of (s0 _ _ e2)⟩,
          for_tup (K := K) (a := b) (xs := vs) (fun i σ H1 => ∃ y, σ = [some (.ref a), some (.ref F), y] ∧ Same H H1 ∧ H1 F = some (.lst ((btnsL (ps.take i)).map V.int))) ⟨none, rfl, s0, upd_same⟩ (fun i σ H1 _ h => ?_) (fun i x σ H1 hx h => ?_) (fun σ H1 h => ?_)⟩
        · obtain ⟨y, rfl, s1, eF⟩ := h
          exact SqT.of (s1 _ _ e2)
        · obtain ⟨y, rfl, s1, eF⟩ := h
          obtain ⟨p, hp, hT1⟩ := hP.get hx
          have hm : p ∈ ps := List.mem_of_getElem? hp
          have hdp := part_dep hm
          have hbp := part_btns hm
          have htk := btnsL_take_le ps i
          simp only [dep] at hd
          simp only [btns] at hb
          refine ⟨_, rfl, .inl ⟨rfl, _, SqL.of eF⟩, _, rfl, p, x, rfl, hT1.mono s1.T, okL_iff.mp hok.2.2 p hm, by omega, by omega, fun H2 r s2 nr er => ?_⟩
          refine ⟨F, r, _, _, rfl, rfl, s2 _ _ eF, er, le_line (by rw [List.length_map, List.length_map]; omega), _, rfl, (s1.trans s2).upd nF _, ?_⟩
          rw [upd_same, btnsL_take hp, List.map_append]
        · obtain ⟨y, rfl, s1, eF⟩ := h
          rw [← hlen, List.take_length] at eF
          exact ⟨_, rfl, q H1 F s1 nF eF⟩
theorem pr_buttons_of (T : Txt K mg) (d : Nat) : Pr P w K mg base "buttons_of" ["tree"] (d + 2) (spBo d) := by
  have G_buttons_in_order := pr_buttons_in_order (P := P) (w := w) (base := base) T d
  refine T.buttons_of.pr sc_buttons_of (fun _ _ _ _ _ _ us hl => match us, hl with | [_], _ => rfl) (fun vs H Q E h => ?_) (fun cdv A outer s H vs Q E hr h => ?_)
  · obtain ⟨t, v, rfl, _⟩ := h
    rfl
  · obtain ⟨t, v, rfl, hT, hok, hd, hb, q⟩ := h
    refine ⟨_, (pss_one (ps_ret (pe_callTy call_tuple_of (by rfl) T.m_tuple b_tuple (pa_cons (pe_callB cr_sortedI (by rfl) T.m_sorted b_sorted (pa_cons (pe_pr G_buttons_in_order (hr.mono (by omega)) (pa_cons (pv 0) pa_nil)) pa_nil)) pa_nil)))), ?_⟩
    refine ⟨_, rfl, t, v, rfl, hT, hok, hd, hb, fun H1 p s1 np ep => ?_⟩
    refine ⟨p, _, rfl, SqL.of ep, fun ns r hp _ nr => ?_⟩
    refine ⟨r, _, rfl, .inl ⟨SqL.of upd_same, fun l nl => ?_⟩⟩
    exact q _ ns _ ((s1.trans (same_upd nr _)).trans (same_upd nl _)) hp ⟨l, rfl, upd_same⟩
theorem pr_need_buttons (T : Txt K mg) : Pr P w K mg base "need_buttons" ["events", "buttons"] 1 spNeed := by
  refine T.need_buttons.pr sc_need_buttons (fun _ _ _ _ _ _ us hl => match us, hl with | [_, _], _ => rfl) (fun vs H Q E h => ?_) (fun cdv A outer s H vs Q E hr h => ?_)
  · obtain ⟨es, ns, v, u, rfl, _⟩ := h
    rfl
  · obtain ⟨es, ns, v, u, rfl, ⟨a, vs, rfl, ea, hE⟩, ⟨c, rfl, ec⟩, hin, q⟩ := h
    refine ⟨_, (pss_one (ps_for PassesOwn.never rfl (pi_tupK (K := K) (pv 0)) (pg_tupK (K := K) rfl (pgs_cons (pg_name (i := 2) sc_need_buttons.nd rfl (Or.inl rfl)) (pgs_cons (pg_name (i := 3) sc_need_buttons.nd rfl (Or.inl rfl)) pgs_nil))) (pss_one (ps_if (pt_cmpR (op_notinK (K := K)) (pv 3) (pv 1) (by rfl)) (pss_one ps_never) pss_nil)))), ?_⟩
    refine ⟨_, rfl, a, rfl, ⟨vs, SqT.of ea⟩, for_tup (K := K) (a := a) (xs := vs) (fun i σ H1 => ∃ y z, σ = [some (.ref a), some (.ref c), y, z] ∧ Same H H1) ⟨none, none, rfl, Same.refl H⟩ (fun i σ H1 _ h => ?_) (fun i x σ H1 hx h => ?_) (fun σ H1 h => ?_)⟩
    · obtain ⟨y, z, rfl, s1⟩ := h
      exact SqT.of (s1 _ _ ea)
    · obtain ⟨y, z, rfl, s1⟩ := h
      obtain ⟨e, he, g, rfl, eg⟩ := hE.get hx
      refine ⟨g, _, rfl, SqT.of (s1 _ _ eg), rfl, _, _, rfl, _, _, rfl, rfl, _, rfl, _, rfl, c, _, rfl, .inr (SqT.of (s1 _ _ ec)), rfl, flat_ints ns, _, rfl, ?_⟩
      rw [inV_ints]
      have hm : mem ns e.2 = true := decide_eq_true (hin e (List.mem_of_getElem? he))
      rw [hm]
      exact iteF ⟨_, _, rfl, s1⟩
    · obtain ⟨y, z, rfl, s1⟩ := h
      exact q H1 s1
theorem word_press (b : Bool) : decide (V.str (word b) = V.str "press") = b := by
  cases b with
  | true => rfl
  | false => decide +kernel
theorem pr_pressed_lots (T : Txt K mg) : Pr P w K mg base "pressed_lots" ["events"] 1 spPressed := by
  refine T.pressed_lots.pr sc_pressed_lots (fun _ _ _ _ _ _ us hl => match us, hl with | [_], _ => rfl) (fun vs H Q E h => ?_) (fun cdv A outer s H vs Q E hr h => ?_)
  · obtain ⟨es, v, rfl, _⟩ := h
    rfl
  · obtain ⟨es, v, rfl, ⟨a, vs, rfl, ea, hE⟩, hz, q⟩ := h
    have hu := hu_of hr
    refine ⟨_, (pss_cons (ps_par (i := 1) (j := 2) rfl sc_pressed_lots.nd rfl rfl (by decide) rfl rfl (pa_cons pe_dnewK (pa_cons (pe_lst pa_nil) pa_nil)) (by rfl))
 (pss_cons (ps_for PassesOwn.never rfl (pi_tupK (K := K) (pv 0)) (pg_tupK (K := K) rfl (pgs_cons (pg_name (i := 3) sc_pressed_lots.nd rfl (Or.inl rfl)) (pgs_cons (pg_name (i := 4) sc_pressed_lots.nd rfl (Or.inl rfl)) pgs_nil))) (C8.pss_cut (ps_if (pt_cmpR op_eq (pv 3) pe_str (nomark _)) (pss_one (ps_dput hu (pv 1) (pv 4) pe_bl rfl)) (pss_one (ps_if (pt_cmp (pc_din hu (pv 4) (pv 1))) (pss_one (ps_expr (pe_dpop1 (pv 1) (pv 4) ⟨rfl, rfl, rfl, rfl⟩))) pss_nil)))
 (pss_one (ps_expr (pe_bm PySem.F.plainAttrs_list PySem.F.slot_list_append PySem.F.type_list_append mt_append (pv 2) (pa_cons (pe_callTy call_tuple_of (by rfl) T.m_tuple b_tuple (pa_cons (pe_callB cr_sortedI (by rfl) T.m_sorted b_sorted (pa_cons (pe_callTy (call_list_dK rfl) (by rfl) T.m_list b_list (pa_cons (pv 1) pa_nil)) pa_nil)) pa_nil)) pa_nil))))))
 (pss_one (ps_ret (pv 2))))), ?_⟩
    have hlen := hE.len
    refine fun d nd => ⟨Nat.zero_le _, fun F nF => ⟨_, _, rfl, ?_⟩⟩
    have nFd : F ≠ d := fun z => by rw [z, upd_same] at nF; cases nF
    have nF' : H F = none := by rw [upd_ne nFd] at nF; exact nF
    have s0 : Same H (upd (upd H d (.dK [])) F (.lst [])) := ((same_upd nd _).upd nF' _)
    refine ⟨_, rfl, a, rfl, ⟨vs, SqT.of (s0 _ _ ea)⟩, for_tup (K := K) (a := a) (xs := vs) (fun i σ H1 => ∃ y z kvs us nss, σ = [some (.ref a), some (.ref d), some (.ref F), y, z] ∧ Same H H1 ∧ H1 d = some (.dK kvs) ∧ H1 F = some (.lst us) ∧
      KvOf kvs ((es.take i).foldl stp noLot) ∧ kvs.length ≤ i ∧ F2 (IT H1) nss us ∧ nss.map mem = sts noLot (es.take i)) ⟨none, none, [], [], [], rfl, s0, ?_, upd_same, KvOf.nil, Nat.le_refl _, .nil, rfl⟩ (fun i σ H1 _ h => ?_) (fun i x σ H1 hx h => ?_) (fun σ H1 h => ?_)⟩
    · rw [upd_ne nFd.symm, upd_same]
    · obtain ⟨y, z, kvs, us, nss, rfl, s1, _⟩ := h
      exact SqT.of (s1 _ _ ea)
    · obtain ⟨y, z, kvs, us, nss, rfl, s1, ed, eF, hk, hkl, hU, hN⟩ := h
      obtain ⟨e, he, g, rfl, eg⟩ := hE.get hx
      have hi : i < es.length := (List.getElem?_eq_some_iff.mp he).1
      have etk : es.take (i + 1) = es.take i ++ [e] := by
        rw [List.take_add_one, he]
        rfl
      have hul : us.length = i := by
        rw [← hU.len, ← List.length_map (f := mem), hN, sts_length, List.length_take]
        omega
      refine ⟨g, _, rfl, SqT.of (s1 _ _ eg), rfl, _, _, rfl, _, _, rfl, rfl, ?_⟩
      refine ⟨fun σ2 H2 => ∃ kvs2, σ2 = [some (.ref a), some (.ref d), some (.ref F), some (.str (word e.1)), some (.int e.2)] ∧ Same H H2 ∧ SameT H1 H2 ∧ H2 d = some (.dK kvs2) ∧ H2 F = some (.lst us) ∧ KvOf kvs2 ((es.take (i + 1)).foldl stp noLot) ∧ kvs2.length ≤ i + 1, ?_, fun σ2 H2 h2 => ?_⟩
      · have dF : d ≠ F := ne_of ed eF (by intro z; cases z)
        rw [etk, List.foldl_append]
        show tIfS _ _ _ _ _ _
        refine ⟨_, rfl, rfl, _, rfl, ?_⟩
        rw [word_press]
        obtain ⟨ew, eb⟩ := e
        cases ew with
        | true =>
          refine iteT ⟨_, rfl, _, rfl, d, _, rfl, DPut.k (k := Sum.inl eb) ed (lt_line (by omega)), _, rfl, s1.upd nd _, SameT.dk ed _, upd_same, ?_, hk.put eb _, ?_⟩
          · rw [upd_ne dF.symm]; exact eF
          · exact Nat.le_trans (putK_len _ _ _) (by omega)
        | false =>
          refine iteF ⟨_, rfl, _, rfl, d, _, rfl, DGet.k (k := Sum.inl eb) ed, _, rfl, ?_⟩
          have ha := hk.at_ eb
          cases c : valV kvs (Sum.inl eb) with
          | none =>
            rw [c] at ha
            exact iteF ⟨_, rfl, s1, SameT.refl _, ed, eF, hk.stay ha.symm, by omega⟩
          | some v =>
            refine iteT ⟨_, rfl, d, rfl, .inl ⟨_, .inl ed⟩, _, rfl, kvs, Sum.inl eb, v, ed, rfl, c, _, rfl, s1.upd nd _, SameT.dk ed _, upd_same, ?_, hk.drop eb, ?_⟩
            · rw [upd_ne dF.symm]; exact eF
            · exact Nat.le_trans (dropK_le _ _) (by omega)
      · obtain ⟨kvs2, rfl, s2, t2, ed2, eF2, hk2, hl2⟩ := h2
        obtain ⟨ks, ek, em⟩ := hk2.keys
        refine ⟨_, rfl, .inl ⟨rfl, _, SqL.of eF2⟩, _, rfl, d, kvs2, rfl, ed2, fun r nr => ⟨r, ks, rfl, .inl (.inl (by rw [upd_same, ek])), fun ns p hp _ np => ⟨p, _, rfl, .inl ⟨SqL.of upd_same, fun l nl => ?_⟩⟩⟩⟩
        have m1 := same_upd nr (.lst (kvs2.map fun kv => kV kv.1))
        have m2 := same_upd np (.lst (ns.map V.int))
        have m3 := same_upd nl (.tup (ns.map V.int))
        have m := (m1.trans m2).trans m3
        have eF3 := m _ _ eF2
        refine ⟨F, us, .ref l, rfl, rfl, eF3, lt_line (by omega), _, _, kvs2, us ++ [.ref l], nss ++ [ns], rfl, (s2.trans m).upd nF' _, ?_, upd_same, hk2, hl2, ?_, ?_⟩
        · rw [upd_ne (ne_of ed2 eF2 (by intro z; cases z))]
          exact m _ _ ed2
        · have t3 : SameT H1 (upd (upd (upd (upd H2 r (.lst (kvs2.map fun kv => kV kv.1))) p (.lst (ns.map V.int))) l (.tup (ns.map V.int))) F (.lst (us ++ [.ref l]))) := (t2.trans m.T).trans (SameT.lst eF3 _)
          exact (its_mono t3 hU).snoc ⟨l, rfl, SameT.lst eF3 _ _ _ upd_same⟩
        · have e2 : mem ns = stp ((es.take i).foldl stp noLot) e := by
            rw [mem_perm hp, em, etk, List.foldl_append]
            rfl
          rw [List.map_append, hN, etk, sts_snoc, ← e2]
          rfl
    · obtain ⟨y, z, kvs, us, nss, rfl, s1, ed, eF, hk, hkl, hU, hN⟩ := h
      rw [← hlen, List.take_length] at hN
      exact ⟨_, rfl, q H1 F us nss s1 eF hU hN⟩
theorem pr_run (T : Txt K mg) (d : Nat) : Pr P w K mg base "run" ["tree", "events"] (d + 3) (spRun d) := by
  have G_buttons_of := pr_buttons_of (P := P) (w := w) (base := base) T d
  have G_need_buttons := pr_need_buttons (P := P) (w := w) (base := base) T
  have G_pressed_lots := pr_pressed_lots (P := P) (w := w) (base := base) T
  have G_goes := pr_goes (P := P) (w := w) (base := base) T d
  refine T.run.pr sc_run (fun _ _ _ _ _ _ us hl => match us, hl with | [_, _], _ => rfl) (fun vs H Q E h => ?_) (fun cdv A outer s H vs Q E hr h => ?_)
  · obtain ⟨t, es, v, u, rfl, _⟩ := h
    rfl
  · obtain ⟨t, es, v, u, rfl, hT, hok, hd, hb, hE, hin, hz, q⟩ := h
    refine ⟨_, (pss_cons (ps_expr (pe_pr G_need_buttons (hr.mono (by omega)) (pa_cons (pv 1) (pa_cons (pe_pr G_buttons_of (hr.mono (by omega)) (pa_cons (pv 0) pa_nil)) pa_nil))))
 (pss_one (ps_ret (pe_callTy call_tuple_of (by rfl) T.m_tuple b_tuple (pa_cons (pe_lc (own := [("lot", 2)]) (g := gName 2) (by rfl) sc_run.nd (pi_listK (K := K) (pe_pr G_pressed_lots (hr.mono (by omega)) (pa_cons (pv 1) pa_nil))) (blkOk_by (own := [("lot", 2)]) (N := ["tree", "events", "lot"]) (sc := defScope s_run) (by decide +kernel)) (fun _ _ _ _ _ => (pg_name (i := 2) sc_run.nd rfl (Or.inl rfl))) (fun _ _ _ _ _ => pts_nil) (fun _ _ _ _ _ => (pe_pr G_goes (hr.mono (by omega)) (pa_cons (pv 0) (pa_cons (pv 2) pa_nil))))) pa_nil))))), ?_⟩
    refine ⟨_, rfl, _, rfl, t, v, rfl, hT, hok, hd, hb, fun H1 ns l s1 hp hl => ?_⟩
    refine ⟨es, ns, u, l, rfl, hE.mono s1.T, hl, fun e he => hp.mem_iff.mpr (hin e he), fun H2 s2 => ?_⟩
    have s12 := s1.trans s2
    refine ⟨_, rfl, es, u, rfl, hE.mono s12.T, hz, fun H3 p us nss s3 ep hU hN => ?_⟩
    have s13 := s12.trans s3
    have hlen := hU.len
    have hnl : nss.length = es.length := by rw [← List.length_map (f := mem), hN, sts_length]
    refine ⟨p, rfl, ⟨us, SqL.of ep⟩, fun D nD => lc_list (K := K) (a := p) (xs := us) (fun i H4 => Same H3 H4 ∧ H4 D = some (.lst (((nss.take i).map fun ns => goes (mem ns) t).map V.bl)))
      ⟨same_upd nD _, upd_same⟩ (fun i H4 _ h => SqL.of (h.1 _ _ ep)) (fun i x H4 hx h => ?_) (fun H4 h => ?_)⟩
    · obtain ⟨s4, eD⟩ := h
      obtain ⟨m, hm, hl1⟩ := hU.get hx
      have hi : i < nss.length := (List.getElem?_eq_some_iff.mp hm).1
      refine ⟨rfl, _, rfl, _, rfl, t, v, x, m, rfl, hT.mono (s13.trans s4).T, hok, hd, hb, hl1.mono s4.T, fun H5 s5 => ?_⟩
      refine ⟨_, s5 _ _ eD, lt_line (by rw [List.length_map, List.length_map, List.length_take]; omega), (s4.trans s5).upd nD _, ?_⟩
      rw [upd_same, List.take_add_one, hm, List.map_append, List.map_append]
      rfl
    · obtain ⟨s4, eD⟩ := h
      rw [← hlen, List.take_length] at eD
      refine ⟨D, _, rfl, .inl ⟨SqL.of eD, fun r nr => ?_⟩⟩
      have e : (nss.map fun ns => goes (mem ns) t) = (sts noLot es).map fun L => goes L t := by
        rw [← hN, List.map_map]
        rfl
      rw [← e] at q
      exact q _ _ ((s13.trans s4).trans (same_upd nr _)) ⟨r, rfl, upd_same⟩
theorem pr_run_scale (T : Txt K mg) : Pr P w K mg base "run_scale" ["scale", "events"] 2 spRunScale := by
  have G_need_buttons := pr_need_buttons (P := P) (w := w) (base := base) T
  have G_pressed_lots := pr_pressed_lots (P := P) (w := w) (base := base) T
  have G_scale_goes := pr_scale_goes (P := P) (w := w) (base := base) T
  refine T.run_scale.pr sc_run_scale (fun _ _ _ _ _ _ us hl => match us, hl with | [_, _], _ => rfl) (fun vs H Q E h => ?_) (fun cdv A outer s H vs Q E hr h => ?_)
  · obtain ⟨rows, bound, es, v, u, rfl, _⟩ := h
    rfl
  · obtain ⟨rows, bound, es, v, u, rfl, hS, hrl, hE, hin, hz, q⟩ := h
    refine ⟨_, (pss_cons (ps_expr (pe_pr G_need_buttons (hr.mono (by omega)) (pa_cons (pv 1) (pa_cons (pe_callTy call_tuple_of (by rfl) T.m_tuple b_tuple (pa_cons (pe_lc (own := [("button", 2), ("weight", 3)]) (g := gTup K 2 (gCons (gName 2) (gCons (gName 3) gNil))) (by rfl) sc_run_scale.nd (pi_tupK (K := K) (pe_ix (ix_tupK (K := K)) (pv 0) pe_int (fun _ _ => rfl))) (blkOk_by (own := [("button", 2), ("weight", 3)]) (N := ["scale", "events", "button", "weight", "lot"]) (sc := defScope s_run_scale) (by decide +kernel)) (fun _ _ _ _ _ => (pg_tupK (K := K) rfl (pgs_cons (pg_name (i := 2) sc_run_scale.nd rfl (Or.inl rfl)) (pgs_cons (pg_name (i := 3) sc_run_scale.nd rfl (Or.inl rfl)) pgs_nil)))) (fun _ _ _ _ _ => pts_nil) (fun _ _ _ _ _ => (pv 2))) pa_nil)) pa_nil))))
 (pss_one (ps_ret (pe_callTy call_tuple_of (by rfl) T.m_tuple b_tuple (pa_cons (pe_lc (own := [("lot", 4)]) (g := gName 4) (by rfl) sc_run_scale.nd (pi_listK (K := K) (pe_pr G_pressed_lots (hr.mono (by omega)) (pa_cons (pv 1) pa_nil))) (blkOk_by (own := [("lot", 4)]) (N := ["scale", "events", "button", "weight", "lot"]) (sc := defScope s_run_scale) (by decide +kernel)) (fun _ _ _ _ _ => (pg_name (i := 4) sc_run_scale.nd rfl (Or.inl rfl))) (fun _ _ _ _ _ => pts_nil) (fun _ _ _ _ _ => (pe_pr G_scale_goes (hr.mono (by omega)) (pa_cons (pv 0) (pa_cons (pv 4) pa_nil))))) pa_nil))))), ?_⟩
    obtain ⟨a, b, vs, rfl, e1, e2, hR⟩ := id hS
    have hvl := hR.len
    refine ⟨_, rfl, _, rfl, a, _, 0, .ref b, rfl, rfl, SqT.of e1, rfl, b, rfl, ⟨vs, SqT.of e2⟩, fun D nD => lc_tup (K := K) (a := b) (xs := vs) (fun i H1 => Same H H1 ∧ H1 D = some (.lst (((rows.take i).map Prod.fst).map V.int)))
          ⟨same_upd nD _, upd_same⟩ (fun i H1 _ h => SqT.of (h.1 _ _ e2)) (fun i x H1 hx h => ?_) (fun H1 h => ?_)⟩
    · obtain ⟨s1, eD⟩ := h
      obtain ⟨p, hp, c, rfl, ec⟩ := hR.get hx
      have hi : i < rows.length := (List.getElem?_eq_some_iff.mp hp).1
      refine ⟨c, _, rfl, SqT.of (s1 _ _ ec), rfl, _, _, rfl, _, _, rfl, rfl, rfl, _, rfl, _, eD, lt_line (by rw [List.length_map, List.length_map, List.length_take]; omega), s1.upd nD _, ?_⟩
      rw [upd_same, List.take_add_one, hp, List.map_append, List.map_append]
      rfl
    · obtain ⟨s1, eD⟩ := h
      rw [← hvl, List.take_length] at eD
      refine ⟨D, _, rfl, .inl ⟨SqL.of eD, fun r nr => ?_⟩⟩
      have s2 := s1.trans (same_upd nr (.tup ((rows.map Prod.fst).map V.int)))
      refine ⟨es, _, u, .ref r, rfl, hE.mono s2.T, ⟨r, rfl, upd_same⟩, hin, fun H3 s3 => ?_⟩
      have s13 := s2.trans s3
      refine ⟨_, rfl, es, u, rfl, hE.mono s13.T, hz, fun H4 p us nss s4 ep hU hN => ?_⟩
      have s14 := s13.trans s4
      have hlen := hU.len
      have hnl : nss.length = es.length := by rw [← List.length_map (f := mem), hN, sts_length]
      refine ⟨p, rfl, ⟨us, SqL.of ep⟩, fun D2 nD2 => lc_list (K := K) (a := p) (xs := us) (fun i H5 => Same H4 H5 ∧ H5 D2 = some (.lst (((nss.take i).map fun ns => decide (bound ≤ sumw (mem ns) rows)).map V.bl)))
        ⟨same_upd nD2 _, upd_same⟩ (fun i H5 _ h => SqL.of (h.1 _ _ ep)) (fun i x H5 hx h => ?_) (fun H5 h => ?_)⟩
      · obtain ⟨s5, eD2⟩ := h
        obtain ⟨m, hm, hl1⟩ := hU.get hx
        have hi : i < nss.length := (List.getElem?_eq_some_iff.mp hm).1
        refine ⟨rfl, _, rfl, _, rfl, rows, bound, .ref a, x, m, rfl, hS.mono (s14.trans s5).T, hrl, hl1.mono s5.T, fun H6 s6 => ?_⟩
        refine ⟨_, s6 _ _ eD2, lt_line (by rw [List.length_map, List.length_map, List.length_take]; omega), (s5.trans s6).upd nD2 _, ?_⟩
        rw [upd_same, List.take_add_one, hm, List.map_append, List.map_append]
        rfl
      · obtain ⟨s5, eD2⟩ := h
        rw [← hlen, List.take_length] at eD2
        refine ⟨D2, _, rfl, .inl ⟨SqL.of eD2, fun r2 nr2 => ?_⟩⟩
        have e : (nss.map fun ns => decide (bound ≤ sumw (mem ns) rows)) = (sts noLot es).map fun L => decide (bound ≤ sumw L rows) := by
          rw [← hN, List.map_map]
          rfl
        rw [← e] at q
        exact q _ _ ((s14.trans s5).trans (same_upd nr2 _)) ⟨r2, rfl, upd_same⟩
end
end K94

/-! K94D3: contrary, told. -/
namespace K94
open PySem L2 PySem.Spec PyProof.Rows
theorem conL_snoc {ps : List Tree} {i : Nat} {p : Tree} (h : ps[i]? = some p) : conL (ps.take (i + 1)) = conL (ps.take i) ++ [con p] := by
  rw [List.take_add_one, h, conL_map, conL_map, List.map_append]
  rfl
def spCon (d : Nat) : Sp := fun vs H Q _ => ∃ t v, vs = [v] ∧ TAt H t v ∧ Ok t ∧ dep t < d ∧ (btns t).length ≤ 1000 ∧ ∀ H' u, Same H H' → TAt H' (con t) u → Q u H'
def spLb : Sp := fun vs H Q _ => ∃ t v, vs = [v] ∧ TAt H t v ∧ Ok t ∧ ∀ n, Q (.int n) H
def spLike : Sp := fun vs H Q _ => ∃ (k : Int) (n : Nat) (p : Tree) (v : V), vs = [v, .int k, .int n] ∧ TAt H p v ∧ Q (.bl (like k n p)) H
def spToldTrip : Sp := fun vs H Q _ => ∃ (k : Int) (l : Addr) (us : List V) (ps : List Tree), vs = [.int k, .ref l] ∧ H l = some (.lst us) ∧ PAt H ps us ∧ Ok (.trip k ps) ∧ RedL ps ∧ (btnsL ps).length ≤ 1000 ∧
  ∀ H' t u, Same H H' → ToldOf (.trip k ps) t → TAt H' t u → Q u H'
def spTold (d : Nat) : Sp := fun vs H Q _ => ∃ t v, vs = [v] ∧ TAt H t v ∧ Ok t ∧ dep t < d ∧ (btns t).length ≤ 1000 ∧ ∀ H' t' u, Same H H' → ToldOf t t' → TAt H' t' u → Q u H'
section
variable {mg : Str → Option Value} {K : PySem.W.Frag} {P : Program} {w : World} {base : Heap}
theorem pr_contrary (T : Txt K mg) : ∀ d : Nat, Pr P w K mg base "contrary" ["tree"] (d + 1) (spCon d)
  | 0 => T.contrary.none (fun _ _ _ _ _ _ us hl => match us, hl with | [_], _ => rfl) fun vs H Q E h => by
    obtain ⟨t, v, _, _, _, h, _⟩ := h
    exact (Nat.not_lt_zero _ h).elim
  | d + 1 => by
    have G_is_trip := pr_is_trip (P := P) (w := w) (base := base) T
    have G_contrary := pr_contrary T d
    refine T.contrary.pr sc_contrary (fun _ _ _ _ _ _ us hl => match us, hl with | [_], _ => rfl) (fun vs H Q E h => ?_) (fun cdv A outer s H vs Q E hr h => ?_)
    · obtain ⟨t, v, rfl, _⟩ := h
      rfl
    · obtain ⟨t, v, rfl, hT, hok, hd, hb, q⟩ := h
      refine ⟨_, (pss_cons (ps_if (pt_not (pt_val (pe_pr G_is_trip (hr.mono (by omega)) (pa_cons (pv 0) pa_nil)))) (pss_one (ps_ret (pv 0))) pss_nil)
 (pss_cons (ps_asg (pv 0) (pg_tupK (K := K) rfl (pgs_cons (pg_name (i := 1) sc_contrary.nd rfl (Or.inl rfl)) (pgs_cons (pg_name (i := 2) sc_contrary.nd rfl (Or.inl rfl)) pgs_nil))))
 (pss_one (ps_ret (pe_tup (pa_cons (pe_op op_add (pe_op op_sub (pe_callB (call_lenK (K := K)) (by rfl) T.m_len b_len (pa_cons (pv 2) pa_nil)) (pv 1)) pe_int) (pa_cons (pe_callTy call_tuple_of (by rfl) T.m_tuple b_tuple (pa_cons (pe_lc (own := [("part", 3)]) (g := gName 3) (by rfl) sc_contrary.nd (pi_tupK (K := K) (pv 2)) (blkOk_by (own := [("part", 3)]) (N := ["tree", "bound", "parts", "part"]) (sc := defScope s_contrary) (by decide +kernel)) (fun _ _ _ _ _ => (pg_name (i := 3) sc_contrary.nd rfl (Or.inl rfl))) (fun _ _ _ _ _ => pts_nil) (fun _ _ _ _ _ => (pe_pr G_contrary (hr.mono (by omega)) (pa_cons (pv 3) pa_nil)))) pa_nil)) pa_nil))))))), ?_⟩
      rcases hT.cases with ⟨n, rfl, rfl⟩ | ⟨k, ps, a, b, vs, rfl, rfl, e1, e2, hP⟩
      · refine ⟨_, rfl, _, rfl, .inl ⟨n, rfl, _, rfl, iteT ?_⟩⟩
        exact ⟨_, rfl, q H _ (Same.refl H) rfl⟩
      · refine ⟨_, rfl, _, rfl, .inr ⟨a, _, rfl, e1, _, rfl, iteF ?_⟩⟩
        have hlen := hP.len
        have h1000 := parts_1000 hok hb
        refine ⟨_, rfl, a, _, rfl, SqT.of e1, rfl, _, _, rfl, _, _, rfl, rfl, ?_⟩
        refine ⟨_, rfl, b, vs, rfl, .inr (SqT.of e2), _, rfl, _, _, rfl, rfl, _, _, rfl, rfl, _, rfl, b, rfl, ⟨vs, SqT.of e2⟩,
          fun D nD => lc_tup (K := K) (a := b) (xs := vs) (fun i H1 => Same H H1 ∧ ∃ acc, H1 D = some (.lst acc) ∧ PAt H1 (conL (ps.take i)) acc) ⟨same_upd nD _, [], upd_same, .nil⟩ (fun i H1 _ h => SqT.of (h.1 _ _ e2)) (fun i x H1 hx h => ?_) (fun H1 h => ?_)⟩
        · obtain ⟨s1, acc, eD, hA⟩ := h
          obtain ⟨p, hp, hT1⟩ := hP.get hx
          have hm : p ∈ ps := List.mem_of_getElem? hp
          have hi : i < ps.length := (List.getElem?_eq_some_iff.mp hp).1
          have hdp := part_dep hm
          have hbp := part_btns hm
          have hal := hA.len
          rw [conL_length, List.length_take] at hal
          simp only [dep] at hd
          simp only [btns] at hb
          refine ⟨rfl, _, rfl, p, x, rfl, hT1.mono s1.T, okL_iff.mp hok.2.2 p hm, by omega, by omega, fun H2 u s2 hC => ?_⟩
          have eD2 := s2 _ _ eD
          refine ⟨acc, eD2, lt_line (by omega), (s1.trans s2).upd nD _, _, upd_same, ?_⟩
          rw [conL_snoc hp]
          exact (hA.mono (s2.T.trans (SameT.lst eD2 _))).snoc (hC.mono (SameT.lst eD2 _))
        · obtain ⟨s1, acc, eD, hA⟩ := h
          rw [← hlen, List.take_length] at hA
          refine ⟨D, acc, rfl, .inl ⟨SqL.of eD, fun r nr => ⟨le_line (by simp), fun p np => ?_⟩⟩⟩
          have s2 := same_upd nr (.tup acc)
          have s3 := same_upd np (.tup [.int ((vs.length : Int) - k + 1), .ref r])
          refine q _ _ ((s1.trans s2).trans s3) ?_
          rw [← hlen] at s3 ⊢
          exact TAt.mk upd_same (s3 _ _ upd_same) (hA.mono (s2.T.trans s3.T))
theorem pr_least_button (T : Txt K mg) : Pr P w K mg base "least_button" ["tree"] 2 spLb := by
  have G_is_trip := pr_is_trip (P := P) (w := w) (base := base) T
  refine T.least_button.pr sc_least_button (fun _ _ _ _ _ _ us hl => match us, hl with | [_], _ => rfl) (fun vs H Q E h => ?_) (fun cdv A outer s H vs Q E hr h => ?_)
  · obtain ⟨t, v, rfl, _⟩ := h
    rfl
  · obtain ⟨t, v, rfl, hT, hok, q⟩ := h
    refine ⟨_, (pss_cons (ps_set (i := 1) sc_least_button.nd rfl (Or.inl rfl) (pv 0))
 (pss_cons (ps_while PassesOwn.never (pt_val (pe_pr G_is_trip (hr.mono (by omega)) (pa_cons (pv 1) pa_nil))) (pss_one (ps_set (i := 1) sc_least_button.nd rfl (Or.inl rfl) (pe_ix (ix_tupK (K := K)) (pe_ix (ix_tupK (K := K)) (pv 1) pe_int (fun _ _ => rfl)) pe_int (fun _ _ => rfl)))))
 (pss_one (ps_ret (pv 1))))), ?_⟩
    refine ⟨_, rfl, fun m σ H1 => H1 = H ∧ ∃ t' v', σ = [some v, some v'] ∧ TAt H t' v' ∧ Ok t' ∧ m = dep t', ⟨_, rfl, t, v, rfl, hT, hok, rfl⟩, fun m σ H1 hW => ?_⟩
    obtain ⟨rfl, t', v', rfl, hT', hok', rfl⟩ := hW
    rcases hT'.cases with ⟨n, rfl, rfl⟩ | ⟨k, ps, a, b, vs, rfl, rfl, e1, e2, hP⟩
    · exact ⟨_, rfl, _, rfl, .inl ⟨n, rfl, _, rfl, iteF ⟨_, rfl, q n⟩⟩⟩
    · have h1 := one_part hok'
      have hlen := hP.len
      obtain ⟨x, hx⟩ : ∃ x, vs[0]? = some x := ⟨_, List.getElem?_eq_getElem (by omega)⟩
      obtain ⟨p, hp, hT1⟩ := hP.get hx
      have hm : p ∈ ps := List.mem_of_getElem? hp
      have hdp := part_dep hm
      refine ⟨_, rfl, _, rfl, .inr ⟨a, _, rfl, e1, _, rfl, iteT ⟨fun σ' H' => H' = H1 ∧ σ' = [some v, some x], fun σ' H' h => ?_, _, rfl, a, _, 1, .ref b, rfl, rfl, SqT.of e1, rfl, b, vs, 0, x, rfl, rfl, SqT.of e2, atI_nat (j := 0) hx, rfl, rfl⟩⟩⟩
      obtain ⟨rfl, rfl⟩ := h
      refine ⟨dep p, ?_, rfl, p, x, rfl, hT1, okL_iff.mp hok'.2.2 p hm, rfl⟩
      simp only [dep]
      omega
theorem pr_is_like_trip (T : Txt K mg) : Pr P w K mg base "is_like_trip" ["part", "bound", "many"] 2 spLike := by
  have G_is_trip := pr_is_trip (P := P) (w := w) (base := base) T
  refine T.is_like_trip.pr sc_is_like_trip (fun _ _ _ _ _ _ us hl => match us, hl with | [_, _, _], _ => rfl) (fun vs H Q E h => ?_) (fun cdv A outer s H vs Q E hr h => ?_)
  · obtain ⟨k, n, p, v, rfl, _⟩ := h
    rfl
  · obtain ⟨k, n, p, v, rfl, hT, q⟩ := h
    refine ⟨_, (pss_cons (ps_if (pt_not (pt_val (pe_pr G_is_trip (hr.mono (by omega)) (pa_cons (pv 0) pa_nil)))) (pss_one (ps_ret pe_bl)) pss_nil)
 (pss_one (ps_ret (pe_or (pe_and (pe_cmpR op_eq (pv 1) pe_int (nomark _)) (pe_one (pe_cmpR op_eq (pe_ix (ix_tupK (K := K)) (pv 0) pe_int (fun _ _ => rfl)) pe_int (nomark _)))) (pe_one (pe_and (pe_cmpR op_eq (pv 1) (pv 2) (nomark _)) (pe_one (pe_cmpR op_eq (pe_ix (ix_tupK (K := K)) (pv 0) pe_int (fun _ _ => rfl)) (pe_callB (call_lenK (K := K)) (by rfl) T.m_len b_len (pa_cons (pe_ix (ix_tupK (K := K)) (pv 0) pe_int (fun _ _ => rfl)) pa_nil)) (nomark _))))))))), ?_⟩
    rcases hT.cases with ⟨m, rfl, rfl⟩ | ⟨j, qs, a, b, vs, rfl, rfl, e1, e2, hP⟩
    · exact ⟨_, rfl, _, rfl, .inl ⟨m, rfl, _, rfl, iteT q⟩⟩
    · have hlen := hP.len
      have di : ∀ x y : Int, decide (V.int x = V.int y) = decide (x = y) := fun x y => decide_eq_decide.mpr ⟨V.int.inj, fun e => e ▸ rfl⟩
      refine ⟨_, rfl, _, rfl, .inr ⟨a, _, rfl, e1, _, rfl, iteF ⟨_, rfl, rfl, _, rfl, ?_⟩⟩⟩
      simp only [like] at q
      by_cases c1 : k = 1
      · subst c1
        refine iteT ⟨_, rfl, a, _, 0, .int j, rfl, rfl, SqT.of e1, rfl, rfl, _, rfl, ?_⟩
        by_cases c2 : j = 1
        · subst c2
          exact iteT (by simpa using q)
        · rw [di, decide_eq_false c2] at *
          refine iteF ⟨_, rfl, _, rfl, rfl, _, rfl, ?_⟩
          by_cases c3 : (1 : Int) = (n : Int)
          · rw [← c3] at q ⊢
            refine iteT ⟨_, rfl, a, _, 0, .int j, rfl, rfl, SqT.of e1, rfl, _, rfl, a, _, 1, .ref b, rfl, rfl, SqT.of e1, rfl, b, vs, rfl, .inr (SqT.of e2), rfl, ?_⟩
            rw [di, ← hlen]
            simpa using q
          · rw [di, decide_eq_false c3]
            rw [decide_eq_false c3] at q
            exact iteF (by simpa using q)
      · rw [di, decide_eq_false c1] at *
        refine iteF ⟨_, rfl, iteF ⟨_, rfl, _, rfl, rfl, _, rfl, ?_⟩⟩
        by_cases c3 : k = (n : Int)
        · rw [← c3] at q ⊢
          refine ite2 (fun _ => ⟨_, rfl, a, _, 0, .int j, rfl, rfl, SqT.of e1, rfl, _, rfl, a, _, 1, .ref b, rfl, rfl, SqT.of e1, rfl, b, vs, rfl, .inr (SqT.of e2), rfl, ?_⟩) fun h => absurd (decide_eq_true rfl) h
          rw [di, ← hlen]
          simpa [c1] using q
        · rw [di, decide_eq_false c3]
          rw [decide_eq_false c3] at q
          exact iteF (by simpa using q)
theorem pr_told_trip (T : Txt K mg) : Pr P w K mg base "told_trip" ["bound", "parts"] 5 spToldTrip := by
  have G_is_like_trip := pr_is_like_trip (P := P) (w := w) (base := base) T
  have G_least_button := pr_least_button (P := P) (w := w) (base := base) T
  refine T.told_trip.pr sc_told_trip (fun _ _ _ _ _ _ us hl => match us, hl with | [_, _], _ => rfl) (fun vs H Q E h => ?_) (fun cdv A outer s H vs Q E hr h => ?_)
  · obtain ⟨k, l, us, ps, rfl, _⟩ := h
    rfl
  · obtain ⟨k, l, us, ps, rfl, el, hP, hok, hrd, hb, q⟩ := h
    refine ⟨_, (pss_cons (ps_if (pt_cmpR op_eq (pe_callB (call_lenK (K := K)) (by rfl) T.m_len b_len (pa_cons (pv 1) pa_nil)) pe_int (nomark _)) (pss_one (ps_ret (pe_ix (ix_listK (K := K)) (pv 1) pe_int (fun _ _ => rfl)))) pss_nil)
 (pss_cons (ps_set (i := 2) sc_told_trip.nd rfl (Or.inl rfl) (pe_lst pa_nil))
 (pss_cons (ps_for PassesOwn.never rfl (pi_listK (K := K) (pv 1)) (pg_name (i := 3) sc_told_trip.nd rfl (Or.inl rfl)) (pss_one (ps_if (pt_val (pe_pr G_is_like_trip (hr.mono (by omega)) (pa_cons (pv 3) (pa_cons (pv 0) (pa_cons (pe_callB (call_lenK (K := K)) (by rfl) T.m_len b_len (pa_cons (pv 1) pa_nil)) pa_nil))))) (pss_one (ps_expr (pe_bm PySem.F.plainAttrs_list PySem.F.slot_list_extend PySem.F.type_list_extend (mt_extendTK (K := K)) (pv 2) (pa_cons (pe_ix (ix_tupK (K := K)) (pv 3) pe_int (fun _ _ => rfl)) pa_nil)))) (pss_one (ps_expr (pe_bm PySem.F.plainAttrs_list PySem.F.slot_list_append PySem.F.type_list_append mt_append (pv 2) (pa_cons (pv 3) pa_nil)))))))
 (pss_one (ps_ret (pe_tup (pa_cons (pe_ifExp (pt_cmpR op_eq (pv 0) (pe_callB (call_lenK (K := K)) (by rfl) T.m_len b_len (pa_cons (pv 1) pa_nil)) (nomark _)) (pe_callB (call_lenK (K := K)) (by rfl) T.m_len b_len (pa_cons (pv 2) pa_nil)) (pv 0)) (pa_cons (pe_callTy call_tuple_of (by rfl) T.m_tuple b_tuple (pa_cons (pe_callBK (cr_sortedBy G_least_button (hr.mono (by omega))) (by rfl) T.m_sorted b_sorted (pa_cons (pv 2) pa_nil) (pk_cons (pe_fn G_least_button) pk_nil)) pa_nil)) pa_nil)))))))), ?_⟩
    have hlen := hP.len
    have h1 := one_part hok
    have di : ∀ x y : Int, decide (V.int x = V.int y) = decide (x = y) := fun x y => decide_eq_decide.mpr ⟨V.int.inj, fun e => e ▸ rfl⟩
    refine ⟨_, rfl, l, us, rfl, .inl (SqL.of el), rfl, _, rfl, ?_⟩
    rw [di]
    by_cases c1 : us.length = 1
    · refine ite2 (fun _ => ?_) fun h => absurd (decide_eq_true (by omega)) h
      obtain ⟨x, hx⟩ : ∃ x, us[0]? = some x := ⟨_, List.getElem?_eq_getElem (by omega)⟩
      obtain ⟨p, hp, hT1⟩ := hP.get hx
      refine ⟨_, rfl, l, us, 0, x, rfl, rfl, SqL.of el, atI_nat (j := 0) hx, ?_⟩
      match ps, hlen, hp with
      | [p'], _, hp =>
        have : p' = p := by simpa using hp
        subst this
        exact q H _ _ (Same.refl H) (told_one hok hrd.1) hT1
      | [], hlen, _ => simp at hlen; omega
      | _ :: _ :: _, hlen, _ => simp at hlen; omega
    · refine ite2 (fun h => absurd (of_decide_eq_true h) (by omega)) fun _ => ?_
      have h2 : 2 ≤ ps.length := by omega
      refine ⟨Nat.zero_le _, fun F nF => ?_⟩
      have s0 := same_upd (H := H) nF (.lst [])
      have hfl : (flat k ps.length ps).length ≤ 1000 := by
        have a1 := btns_pos_both.2 _ (flat_ok k ps.length hok.2.2)
        rw [flat_btns] at a1
        omega
      refine ⟨_, rfl, l, rfl, ⟨us, SqL.of (s0 _ _ el)⟩, for_list (K := K) (a := l) (xs := us) (fun i σ H1 => ∃ y fs, σ = [some (.int k), some (.ref l), some (.ref F), y] ∧ Same H H1 ∧ H1 F = some (.lst fs) ∧ PAt H1 (flat k ps.length (ps.take i)) fs) ⟨none, [], rfl, s0, upd_same, .nil⟩
        (fun i σ H1 _ h => ?_) (fun i x σ H1 hx h => ?_) (fun σ H1 h => ?_)⟩
      · obtain ⟨y, fs, rfl, s1, _⟩ := h
        exact SqL.of (s1 _ _ el)
      · obtain ⟨y, fs, rfl, s1, eF, hF⟩ := h
        obtain ⟨p, hp, hT1⟩ := hP.get hx
        have hT2 := hT1.mono s1.T
        have hm : p ∈ ps := List.mem_of_getElem? hp
        have etk : flat k ps.length (ps.take (i + 1)) = flat k ps.length (ps.take i) ++ (if like k ps.length p then partsOf p else [p]) := by
          rw [List.take_add_one, hp]
          exact flat_snoc _ _ _ _
        have hfi : fs.length + (if like k ps.length p then partsOf p else [p]).length ≤ 1000 := by
          have a1 : (flat k ps.length ps) = flat k ps.length (ps.take (i + 1)) ++ flat k ps.length (ps.drop (i + 1)) := by
            have key : ∀ (n : Nat) (xs ys : List Tree), flat k n (xs ++ ys) = flat k n xs ++ flat k n ys := by
              intro n xs ys
              induction xs with
              | nil => rfl
              | cons x r ih => simp [flat, ih]
            rw [← key, List.take_append_drop]
          rw [a1, etk, List.length_append, List.length_append, hF.len] at hfl
          omega
        refine ⟨_, rfl, _, rfl, _, rfl, l, us, rfl, .inl (SqL.of (s1 _ _ el)), k, us.length, p, x, rfl, hT2, _, rfl, ?_⟩
        rw [← hlen]
        rcases hT2.cases with ⟨n, rfl, rfl⟩ | ⟨j, qs, a, b, ws, rfl, rfl, e1, e2, hQ⟩
        · have hfi1 : fs.length + 1 ≤ 1000 := hfi
          refine iteF ⟨_, rfl, .inl ⟨rfl, _, SqL.of eF⟩, _, rfl, F, fs, .int n, rfl, rfl, eF, lt_line (by omega), _, _, rfl, s1.upd nF _, upd_same, ?_⟩
          rw [etk]
          exact (hF.mono (SameT.lst eF _)).app (.cons rfl .nil)
        · by_cases c : like k ps.length (.trip j qs) = true
          · rw [c] at hfi etk ⊢
            have hql := hQ.len
            refine iteT ⟨_, rfl, .inl ⟨rfl, _, SqL.of eF⟩, _, rfl, a, _, 1, .ref b, rfl, rfl, SqT.of e1, rfl, F, b, fs, ws, rfl, rfl, eF, SqT.of e2, le_line (by simp [partsOf] at hfi; omega), _, _, rfl, s1.upd nF _, upd_same, ?_⟩
            rw [etk]
            exact (hF.mono (SameT.lst eF _)).app (hQ.mono (SameT.lst eF _))
          · rw [Bool.eq_false_iff.mpr c] at hfi etk ⊢
            have hfi1 : fs.length + 1 ≤ 1000 := hfi
            refine iteF ⟨_, rfl, .inl ⟨rfl, _, SqL.of eF⟩, _, rfl, F, fs, .ref a, rfl, rfl, eF, lt_line (by omega), _, _, rfl, s1.upd nF _, upd_same, ?_⟩
            rw [etk]
            exact (hF.mono (SameT.lst eF _)).app (.cons (hT2.mono (SameT.lst eF _)) .nil)
      · obtain ⟨y, fs, rfl, s1, eF, hF⟩ := h
        rw [← hlen, List.take_length] at hF
        have hfl2 := hF.len
        -- the bound, the sorted parts
        have fin : ∀ (k' : Int), k' = newK k ps.length (flat k ps.length ps).length → ∃ a ys, [V.ref F] = [V.ref a] ∧ [V.ref (He.ga K "least_button")] = [V.ref (He.ga K "least_button")] ∧ SqL K H1 a ys ∧ (∀ z ∈ ys, spLb [z] H1 (fun v H' => (∃ i, v = .int i) ∧ H' = H1) E0) ∧
            ∀ (ws : List V) (p : Addr), ws.Perm ys → H1 p = none → ∃ p' ys', [V.ref p] = [V.ref p'] ∧ ((SqL K (upd H1 p (.lst ws)) p' ys' ∧ ∀ r, upd H1 p (.lst ws) r = none → 2 ≤ sizeLine ∧ ∀ t, upd (upd H1 p (.lst ws)) r (.tup ys') t = none → Q (.ref t) (upd (upd (upd H1 p (.lst ws)) r (.tup ys')) t (.tup [.int k', .ref r]))) ∨ False) := fun k' ek' => by
          refine ⟨F, fs, rfl, rfl, SqL.of eF, fun z hz => ?_, fun ws p hp np => ⟨p, ws, rfl, .inl ⟨SqL.of upd_same, fun r nr => ⟨le_line (by simp), fun t nt => ?_⟩⟩⟩⟩
          · obtain ⟨x, hx, hTx⟩ := hF.mem hz
            exact ⟨x, z, rfl, hTx, okL_iff.mp (flat_ok k ps.length hok.2.2) x hx, fun n => ⟨⟨n, rfl⟩, rfl⟩⟩
          · obtain ⟨ds, hds, hW⟩ := F2.perm hp hF
            have m1 := same_upd np (.lst ws)
            have m2 := same_upd nr (.tup ws)
            have m3 := same_upd nt (.tup [.int k', .ref r])
            subst ek'
            exact q _ _ _ (((s1.trans m1).trans m2).trans m3) (told_many hok hrd h2 hds) (TAt.mk upd_same (m3 _ _ upd_same) (PAt.mono hW ((m1.trans m2).trans m3).T))
        refine ⟨_, rfl, _, rfl, l, us, rfl, .inl (SqL.of (s1 _ _ el)), rfl, _, rfl, ?_⟩
        rw [di]
        by_cases c : k = (us.length : Int)
        · refine ite2 (fun _ => ⟨_, rfl, F, fs, rfl, .inl (SqL.of eF), _, rfl, ?_⟩) fun h => absurd (decide_eq_true c) h
          obtain ⟨a, ys, e1, e2, h3, h4, h5⟩ := fin (fs.length : Int) (by unfold newK; rw [if_pos (by omega), ← hfl2])
          refine ⟨a, ys, e1, e2, h3, h4, fun ws p hp np => ?_⟩
          obtain ⟨p', ys', f1, f2 | f2⟩ := h5 ws p hp np
          · exact ⟨p', ys', f1, .inl f2⟩
          · exact f2.elim
        · refine ite2 (fun h => absurd (of_decide_eq_true h) c) fun _ => ⟨_, rfl, _, rfl, ?_⟩
          obtain ⟨a, ys, e1, e2, h3, h4, h5⟩ := fin k (by unfold newK; rw [if_neg (by omega)])
          refine ⟨a, ys, e1, e2, h3, h4, fun ws p hp np => ?_⟩
          obtain ⟨p', ys', f1, f2 | f2⟩ := h5 ws p hp np
          · exact ⟨p', ys', f1, .inl f2⟩
          · exact f2.elim
theorem pr_told (T : Txt K mg) : ∀ d : Nat, Pr P w K mg base "told" ["tree"] (d + 6) (spTold d)
  | 0 => T.told.none (fun _ _ _ _ _ _ us hl => match us, hl with | [_], _ => rfl) fun vs H Q E h => by
    obtain ⟨t, v, _, _, _, h, _⟩ := h
    exact (Nat.not_lt_zero _ h).elim
  | d + 1 => by
    have G_is_trip := pr_is_trip (P := P) (w := w) (base := base) T
    have G_told_trip := pr_told_trip (P := P) (w := w) (base := base) T
    have G_told := pr_told T d
    refine T.told.pr sc_told (fun _ _ _ _ _ _ us hl => match us, hl with | [_], _ => rfl) (fun vs H Q E h => ?_) (fun cdv A outer s H vs Q E hr h => ?_)
    · obtain ⟨t, v, rfl, _⟩ := h
      rfl
    · obtain ⟨t, v, rfl, hT, hok, hd, hb, q⟩ := h
      refine ⟨_, (pss_one (ps_ret (pe_ifExp (pt_val (pe_pr G_is_trip (hr.mono (by omega)) (pa_cons (pv 0) pa_nil))) (pe_pr G_told_trip (hr.mono (by omega)) (pa_cons (pe_ix (ix_tupK (K := K)) (pv 0) pe_int (fun _ _ => rfl)) (pa_cons (pe_lc (own := [("part", 1)]) (g := gName 1) (by rfl) sc_told.nd (pi_tupK (K := K) (pe_ix (ix_tupK (K := K)) (pv 0) pe_int (fun _ _ => rfl))) (blkOk_by (own := [("part", 1)]) (N := ["tree", "part"]) (sc := defScope s_told) (by decide +kernel)) (fun _ _ _ _ _ => (pg_name (i := 1) sc_told.nd rfl (Or.inl rfl))) (fun _ _ _ _ _ => pts_nil) (fun _ _ _ _ _ => (pe_pr G_told (hr.mono (by omega)) (pa_cons (pv 1) pa_nil)))) pa_nil))) (pv 0)))), ?_⟩
      rcases hT.cases with ⟨n, rfl, rfl⟩ | ⟨k, ps, a, b, vs, rfl, rfl, e1, e2, hP⟩
      · exact ⟨_, rfl, _, rfl, .inl ⟨n, rfl, _, rfl, iteF ⟨_, rfl, q H _ _ (Same.refl H) (.btn n) rfl⟩⟩⟩
      · have hlen := hP.len
        have h1000 := parts_1000 hok hb
        refine ⟨_, rfl, _, rfl, .inr ⟨a, _, rfl, e1, _, rfl, iteT ?_⟩⟩
        refine ⟨_, rfl, a, _, 0, .int k, rfl, rfl, SqT.of e1, rfl, _, rfl, a, _, 1, .ref b, rfl, rfl, SqT.of e1, rfl, b, rfl, ⟨vs, SqT.of e2⟩, fun D nD => lc_tup (K := K) (a := b) (xs := vs)
          (fun i H1 => Same H H1 ∧ ∃ acc qs, H1 D = some (.lst acc) ∧ PAt H1 qs acc ∧ Toldz (ps.take i) qs) ⟨same_upd nD _, [], [], upd_same, .nil, .nil⟩ (fun i H1 _ h => SqT.of (h.1 _ _ e2)) (fun i x H1 hx h => ?_) (fun H1 h => ?_)⟩
        · obtain ⟨s1, acc, qs, eD, hA, hZ⟩ := h
          obtain ⟨p, hp, hT1⟩ := hP.get hx
          have hm : p ∈ ps := List.mem_of_getElem? hp
          have hi : i < ps.length := (List.getElem?_eq_some_iff.mp hp).1
          have hdp := part_dep hm
          have hbp := part_btns hm
          have hal := hA.len
          have hzl := hZ.len
          rw [List.length_take] at hzl
          simp only [dep] at hd
          simp only [btns] at hb
          refine ⟨rfl, _, rfl, p, x, rfl, hT1.mono s1.T, okL_iff.mp hok.2.2 p hm, by omega, by omega, fun H2 t' u s2 hO hU => ?_⟩
          have eD2 := s2 _ _ eD
          refine ⟨acc, eD2, lt_line (by omega), (s1.trans s2).upd nD _, _, qs ++ [t'], upd_same, (hA.mono (s2.T.trans (SameT.lst eD2 _))).snoc (hU.mono (SameT.lst eD2 _)), ?_⟩
          rw [List.take_add_one, hp]
          exact hZ.snoc hO
        · obtain ⟨s1, acc, qs, eD, hA, hZ⟩ := h
          rw [← hlen, List.take_length] at hZ
          have hbl := hZ.btns.length_eq
          simp only [btns] at hb
          refine ⟨k, D, acc, qs, rfl, eD, hA, hZ.okTrip hok, hZ.red, by omega, fun H2 t u s2 hO hU => ?_⟩
          exact q H2 t u (s1.trans s2) (ToldOf.trans hZ hO) hU
end
end K94

/-! K94D4: own_buttons, own_trips, fork_from, level_rows, weight_over. -/
namespace K94
open PySem L2 PySem.Spec PyProof.Rows

/-! ### xs != [] -/
/-- the items are data -/
def DatL (K : PySem.W.Frag) (H : Hp) (xs : List V) : Prop := ∃ ds, DpAll K H xs ds ∧ PyData.canLayAll0 ds = true ∧ PyData.depthAll ds ≤ 63
theorem shaped_lst {ds : List PyData} (h1 : PyData.canLayAll0 ds = true) (h2 : PyData.depthAll ds ≤ 63) : SeqAt.shaped (.list ds) = true := by
  unfold SeqAt.shaped
  rw [Bool.and_eq_true]
  refine ⟨h1, decide_eq_true ?_⟩
  show PyData.depthAll ds + 1 ≤ 64
  omega
theorem shaped_tup {ds : List PyData} (h1 : PyData.canLayAll0 ds = true) (h2 : PyData.depthAll ds ≤ 63) : SeqAt.shaped (.tuple ds) = true := by
  unfold SeqAt.shaped
  rw [Bool.and_eq_true]
  refine ⟨h1, decide_eq_true ?_⟩
  show PyData.depthAll ds + 1 ≤ 64
  omega
theorem _root_.L2.DpAll.len {K : PySem.W.Frag} {H : Hp} : ∀ {xs : List V} {ds : List PyData}, DpAll K H xs ds → xs.length = ds.length
  | _, _, .nil => rfl
  | _, _, .cons _ t => by simp [L2.DpAll.len t]
theorem eqvAll_nil (ds : List PyData) : PyData.eqvAll ds [] = ds.isEmpty := by
  cases ds <;> simp [PyData.eqvAll]
theorem isEmpty_len {α β : Type} {xs : List α} {ys : List β} (h : xs.length = ys.length) : xs.isEmpty = ys.isEmpty := by
  cases xs <;> cases ys <;> simp at h ⊢
def rNeE (K : PySem.W.Frag) : R2 := fun x y H Q => ∃ a b xs, x = .ref a ∧ y = .ref b ∧ SqL K H a xs ∧ SqL K H b [] ∧ DatL K H xs ∧ Q (.bl (!xs.isEmpty)) H
def rEqE (K : PySem.W.Frag) : R2 := fun x y H Q => ∃ a b xs, x = .ref a ∧ y = .ref b ∧ SqL K H a xs ∧ SqL K H b [] ∧ DatL K H xs ∧ Q (.bl xs.isEmpty) H
def rEqTE (K : PySem.W.Frag) : R2 := fun x y H Q => ∃ a b xs, x = .ref a ∧ y = .ref b ∧ SqT K H a xs ∧ SqT K H b [] ∧ DatL K H xs ∧ Q (.bl xs.isEmpty) H
section
variable {X : Cx} {K : PySem.W.Frag}
theorem op_neE (hu : X.A.units + 64 < cLine) (h : X.K = K := by rfl) : OpR X (compareOp .NotEq) (rNeE K) := by
  subst h
  intro pins s σ H x y v u Q I rx ry h
  obtain ⟨a, b, xs, rfl, rfl, ha, hb, ⟨ds, hd, h1, h2⟩, q⟩ := h
  refine op_neD hu pins s σ H _ _ v u Q I rx ry ⟨.list ds, .list [], .lst ha hd, .lst hb .nil, shaped_lst h1 h2, rfl, ?_⟩
  have e : PyData.eqv (.list ds) (.list []) = xs.isEmpty := by
    show PyData.eqvAll ds [] = _
    rw [eqvAll_nil, isEmpty_len hd.len]
  rw [e]
  exact q
theorem op_eqE (hu : X.A.units + 64 < cLine) (h : X.K = K := by rfl) : OpR X (compareOp .Eq) (rEqE K) := by
  subst h
  intro pins s σ H x y v u Q I rx ry h
  obtain ⟨a, b, xs, rfl, rfl, ha, hb, ⟨ds, hd, h1, h2⟩, q⟩ := h
  refine op_eqD hu pins s σ H _ _ v u Q I rx ry ⟨.list ds, .list [], .lst ha hd, .lst hb .nil, shaped_lst h1 h2, rfl, ?_⟩
  have e : PyData.eqv (.list ds) (.list []) = xs.isEmpty := by
    show PyData.eqvAll ds [] = _
    rw [eqvAll_nil, isEmpty_len hd.len]
  rw [e]
  exact q
theorem op_eqTE (hu : X.A.units + 64 < cLine) (h : X.K = K := by rfl) : OpR X (compareOp .Eq) (rEqTE K) := by
  subst h
  intro pins s σ H x y v u Q I rx ry h
  obtain ⟨a, b, xs, rfl, rfl, ha, hb, ⟨ds, hd, h1, h2⟩, q⟩ := h
  refine op_eqD hu pins s σ H _ _ v u Q I rx ry ⟨.tuple ds, .tuple [], .tup ha hd, .tup hb .nil, shaped_tup h1 h2, rfl, ?_⟩
  have e : PyData.eqv (.tuple ds) (.tuple []) = xs.isEmpty := by
    show PyData.eqvAll ds [] = _
    rw [eqvAll_nil, isEmpty_len hd.len]
  rw [e]
  exact q
end
theorem dat_ints {K : PySem.W.Frag} {H : Hp} : ∀ ns : List Int, DpAll K H (ns.map V.int) (ns.map PyData.int) ∧ PyData.canLayAll0 (ns.map .int) = true ∧ PyData.depthAll (ns.map .int) = 0
  | [] => ⟨.nil, rfl, rfl⟩
  | n :: r => by
    obtain ⟨h1, h2, h3⟩ := dat_ints (K := K) (H := H) r
    refine ⟨.cons (.int n) h1, ?_, ?_⟩
    · simp only [List.map_cons, PyData.canLayAll0, PyData.canLay0, h2, Bool.and_self]
    · simp only [List.map_cons, PyData.depthAll, PyData.depth, h3, Nat.max_self]
theorem DatL.ints {K : PySem.W.Frag} {H : Hp} (ns : List Int) : DatL K H (ns.map V.int) := by
  obtain ⟨h1, h2, h3⟩ := dat_ints (K := K) (H := H) ns
  exact ⟨_, h1, h2, by omega⟩
mutual
def tdat : Tree → PyData
  | .btn n => .int n
  | .trip k ps => .tuple [.int k, .tuple (tdatL ps)]
def tdatL : List Tree → List PyData
  | [] => []
  | p :: r => tdat p :: tdatL r
end
theorem tdat_facts {K : PySem.W.Frag} {H : Hp} : (∀ t v, TAt H t v → Dp K H v (tdat t) ∧ (tdat t).canLay0 = true ∧ (tdat t).depth = 2 * dep t) ∧
    ∀ ps vs, TAtL H ps vs → DpAll K H vs (tdatL ps) ∧ PyData.canLayAll0 (tdatL ps) = true ∧ PyData.depthAll (tdatL ps) = 2 * depL ps := by
  refine tree_ind (fun n v h => ?_) (fun k ps ih v h => ?_) (fun v h => ?_) (fun p r h1 h2 v h => ?_)
  · have h : v = .int n := h
    subst h
    exact ⟨.int n, rfl, rfl⟩
  · obtain ⟨a, b, vs, rfl, e1, e2, h⟩ := h
    obtain ⟨q1, q2, q3⟩ := ih _ h
    refine ⟨.tup (SqT.of e1) (.cons (.int k) (.cons (.tup (SqT.of e2) q1) .nil)), ?_, ?_⟩
    · simp only [tdat, PyData.canLay0, PyData.canLayAll0, q2, Bool.and_self]
    · simp only [tdat, PyData.depth, PyData.depthAll, q3, dep]
      omega
  · have h : v = [] := h
    subst h
    exact ⟨.nil, rfl, rfl⟩
  · obtain ⟨v, ws, rfl, e1, e2⟩ := h
    obtain ⟨q1, q2, q3⟩ := h1 _ e1
    obtain ⟨r1, r2, r3⟩ := h2 _ e2
    refine ⟨.cons q1 r1, ?_, ?_⟩
    · simp only [tdatL, PyData.canLayAll0, q2, r2, Bool.and_self]
    · simp only [tdatL, PyData.depthAll, q3, r3, depL]
      omega
theorem DatL.trees {K : PySem.W.Frag} {H : Hp} {ps : List Tree} {us : List V} (h : PAt H ps us) (hd : depL ps ≤ 31) : DatL K H us := by
  obtain ⟨h1, h2, h3⟩ := (tdat_facts (K := K)).2 ps us (tatL.mpr h)
  exact ⟨_, h1, h2, by omega⟩

/-! ### the trips of a tree; rows -/
def trips : Tree → List Tree
  | .btn _ => []
  | .trip _ ps => ps.filter isTrip
theorem trips_ntr : ∀ ps : List Tree, (ps.filter isTrip).length = ntr ps
  | [] => rfl
  | p :: r => by
    rw [List.filter_cons]
    have := trips_ntr r
    cases h : isTrip p <;> simp [ntr, h, this] <;> omega
theorem rowsL_trips : ∀ ps : List Tree, rowsL ps = match ps.filter isTrip with | [] => [] | p :: _ => rowsT p
  | [] => rfl
  | p :: r => by
    rw [List.filter_cons]
    cases h : isTrip p <;> simp [rowsL, h, rowsL_trips r]
theorem own_snoc (ps : List Tree) (p : Tree) : own (ps ++ [p]) = own ps ++ own [p] := by
  induction ps with
  | nil => rfl
  | cons q r ih => cases q <;> simp [own, ih]
theorem own_len : ∀ ps : List Tree, (own ps).length ≤ ps.length
  | [] => Nat.le_refl _
  | .btn n :: r => by simpa [own] using own_len r
  | .trip _ _ :: r => by
    have := own_len r
    simp only [own, List.length_cons]
    omega
def LRow (H : Hp) (r : Row) (v : V) : Prop := ∃ a b, v = .ref a ∧ H a = some (.tup [.int r.1, .ref b]) ∧ H b = some (.tup (r.2.map V.int))
theorem LRow.mono {H H' : Hp} (s : SameT H H') {r : Row} {v : V} (h : LRow H r v) : LRow H' r v := by
  obtain ⟨a, b, e, h1, h2⟩ := h
  exact ⟨a, b, e, s _ _ h1, s _ _ h2⟩
theorem lrows_mono {H H' : Hp} (s : SameT H H') {rs : List Row} {vs : List V} (h : F2 (LRow H) rs vs) : F2 (LRow H') rs vs := h.mono fun _ _ x => x.mono s
theorem nest_not {k : Int} {ps : List Tree} (h : 2 ≤ ntr ps) : ¬ Nest (.trip k ps) := fun n => by
  have := n.1
  omega

def spOwnB : Sp := fun vs H Q _ => ∃ k ps v, vs = [v] ∧ TAt H (.trip k ps) v ∧ ps.length ≤ 1000 ∧ ∀ H' D, Same H H' → H D = none → H' D = some (.lst ((own ps).map V.int)) → Q (.ref D) H'
def spOwnT : Sp := fun vs H Q _ => ∃ t v, vs = [v] ∧ TAt H t v ∧ Ok t ∧ (btns t).length ≤ 1000 ∧ ∀ H' D us, Same H H' → H D = none → H' D = some (.lst us) → PAt H' (trips t) us → Q (.ref D) H'
def spFork (d : Nat) : Sp := fun vs H Q _ => ∃ t v a ws, vs = [v, .ref a] ∧ TAt H t v ∧ Ok t ∧ dep t < d ∧ (btns t).length ≤ 1000 ∧ H a = some (.tup ws) ∧ ws.length + dep t ≤ 1000 ∧ ∀ H' r, Same H H' → (r = .non ↔ Nest t) → Q r H'
def spRows (d : Nat) : Sp := fun vs H Q _ => ∃ t v, vs = [v] ∧ TAt H t v ∧ Ok t ∧ dep t < d ∧ dep t ≤ 30 ∧ (btns t).length ≤ 1000 ∧ Nest t ∧
  ∀ H' D us t', Same H H' → ToldOf t t' → H D = none → H' D = some (.lst us) → F2 (LRow H') (rowsT t') us → us.length ≤ 40 → Q (.ref D) H'
def spWov : Sp := fun vs H Q _ => ∃ k m a b : Int, vs = [.int k, .int m, .int a, .int b] ∧ Q (.int (wov k m a b)) H
section
variable {mg : Str → Option Value} {K : PySem.W.Frag} {P : Program} {w : World} {base : Heap}
theorem pr_own_buttons (T : Txt K mg) : Pr P w K mg base "own_buttons" ["tree"] 2 spOwnB := by
  have G_is_trip := pr_is_trip (P := P) (w := w) (base := base) T
  refine T.own_buttons.pr sc_own_buttons (fun _ _ _ _ _ _ us hl => match us, hl with | [_], _ => rfl) (fun vs H Q E h => ?_) (fun cdv A outer s H vs Q E hr h => ?_)
  · obtain ⟨k, ps, v, rfl, _⟩ := h
    rfl
  · obtain ⟨k, ps, v, rfl, hT, h1000, q⟩ := h
    refine ⟨_, (pss_one (ps_ret (pe_lc (own := [("part", 1)]) (g := gName 1) (by rfl) sc_own_buttons.nd (pi_tupK (K := K) (pe_ix (ix_tupK (K := K)) (pv 0) pe_int (fun _ _ => rfl))) (blkOk_by (own := [("part", 1)]) (N := ["tree", "part"]) (sc := defScope s_own_buttons) (by decide +kernel)) (fun _ _ _ _ _ => (pg_name (i := 1) sc_own_buttons.nd rfl (Or.inl rfl))) (fun _ _ _ _ _ => (pts_one (pt_not (pt_val (pe_pr G_is_trip (hr.mono (by omega)) (pa_cons (pv 1) pa_nil)))))) (fun _ _ _ _ _ => (pv 1))))), ?_⟩
    obtain ⟨a, b, vs, rfl, e1, e2, hP⟩ := hT.trip
    have hlen := hP.len
    refine ⟨_, rfl, a, _, 1, .ref b, rfl, rfl, SqT.of e1, rfl, b, rfl, ⟨vs, SqT.of e2⟩, fun D nD => lc_tup (K := K) (a := b) (xs := vs)
      (fun i H1 => Same H H1 ∧ H1 D = some (.lst ((own (ps.take i)).map V.int))) ⟨same_upd nD _, upd_same⟩ (fun i H1 _ h => SqT.of (h.1 _ _ e2)) (fun i x H1 hx h => ?_) (fun H1 h => ?_)⟩
    · obtain ⟨s1, eD⟩ := h
      obtain ⟨p, hp, hT1⟩ := hP.get hx
      have hol := own_len (ps.take i)
      rw [List.length_take] at hol
      have hT2 := hT1.mono s1.T
      have hi : i < ps.length := (List.getElem?_eq_some_iff.mp hp).1
      rw [List.take_add_one, hp]
      refine ⟨rfl, _, rfl, _, rfl, ?_⟩
      rcases hT2.cases with ⟨n, rfl, rfl⟩ | ⟨j, qs, a2, b2, ws, rfl, rfl, f1, f2, hQ⟩
      · refine .inl ⟨n, rfl, _, rfl, iteT ⟨_, rfl, _, eD, lt_line (by rw [List.length_map]; omega), s1.upd nD _, ?_⟩⟩
        rw [upd_same, Option.toList, own_snoc, List.map_append]
        rfl
      · refine .inr ⟨a2, _, rfl, f1, _, rfl, iteF ⟨s1, ?_⟩⟩
        rw [Option.toList, own_snoc]
        simpa [own] using eD
    · obtain ⟨s1, eD⟩ := h
      rw [← hlen, List.take_length] at eD
      exact q H1 D s1 nD eD
theorem pr_own_trips (T : Txt K mg) : Pr P w K mg base "own_trips" ["tree"] 2 spOwnT := by
  have G_is_trip := pr_is_trip (P := P) (w := w) (base := base) T
  refine T.own_trips.pr sc_own_trips (fun _ _ _ _ _ _ us hl => match us, hl with | [_], _ => rfl) (fun vs H Q E h => ?_) (fun cdv A outer s H vs Q E hr h => ?_)
  · obtain ⟨t, v, rfl, _⟩ := h
    rfl
  · obtain ⟨t, v, rfl, hT, hok, hb, q⟩ := h
    refine ⟨_, (pss_one (ps_ret (pe_ifExp (pt_val (pe_pr G_is_trip (hr.mono (by omega)) (pa_cons (pv 0) pa_nil))) (pe_lc (own := [("part", 1)]) (g := gName 1) (by rfl) sc_own_trips.nd (pi_tupK (K := K) (pe_ix (ix_tupK (K := K)) (pv 0) pe_int (fun _ _ => rfl))) (blkOk_by (own := [("part", 1)]) (N := ["tree", "part"]) (sc := defScope s_own_trips) (by decide +kernel)) (fun _ _ _ _ _ => (pg_name (i := 1) sc_own_trips.nd rfl (Or.inl rfl))) (fun _ _ _ _ _ => (pts_one (pt_val (pe_pr G_is_trip (hr.mono (by omega)) (pa_cons (pv 1) pa_nil))))) (fun _ _ _ _ _ => (pv 1))) (pe_lst pa_nil)))), ?_⟩
    rcases hT.cases with ⟨n, rfl, rfl⟩ | ⟨k, ps, a, b, vs, rfl, rfl, e1, e2, hP⟩
    · refine ⟨_, rfl, _, rfl, .inl ⟨n, rfl, _, rfl, iteF ⟨Nat.zero_le _, fun D nD => ?_⟩⟩⟩
      exact q _ D [] (same_upd nD _) nD upd_same .nil
    · have hlen := hP.len
      have h1000 := parts_1000 hok hb
      refine ⟨_, rfl, _, rfl, .inr ⟨a, _, rfl, e1, _, rfl, iteT ?_⟩⟩
      refine ⟨_, rfl, a, _, 1, .ref b, rfl, rfl, SqT.of e1, rfl, b, rfl, ⟨vs, SqT.of e2⟩, fun D nD => lc_tup (K := K) (a := b) (xs := vs)
        (fun i H1 => Same H H1 ∧ ∃ acc, H1 D = some (.lst acc) ∧ PAt H1 ((ps.take i).filter isTrip) acc) ⟨same_upd nD _, [], upd_same, .nil⟩ (fun i H1 _ h => SqT.of (h.1 _ _ e2)) (fun i x H1 hx h => ?_) (fun H1 h => ?_)⟩
      · obtain ⟨s1, acc, eD, hA⟩ := h
        obtain ⟨p, hp, hT1⟩ := hP.get hx
        have hal := hA.len
        have hfl := List.length_filter_le isTrip (ps.take i)
        rw [List.length_take] at hfl
        have hT2 := hT1.mono s1.T
        have hi : i < ps.length := (List.getElem?_eq_some_iff.mp hp).1
        rw [List.take_add_one, hp, Option.toList, List.filter_append]
        refine ⟨rfl, _, rfl, _, rfl, ?_⟩
        rcases hT2.cases with ⟨n, rfl, rfl⟩ | ⟨j, qs, a2, b2, ws, rfl, rfl, f1, f2, hQ⟩
        · refine .inl ⟨n, rfl, _, rfl, iteF ⟨s1, acc, eD, ?_⟩⟩
          simpa [isTrip] using hA
        · refine .inr ⟨a2, _, rfl, f1, _, rfl, iteT ⟨_, rfl, acc, eD, lt_line (by omega), s1.upd nD _, _, upd_same, ?_⟩⟩
          have z : [Tree.trip j qs].filter isTrip = [.trip j qs] := rfl
          rw [z]
          exact (PAt.mono hA (SameT.lst eD _)).snoc (hT2.mono (SameT.lst eD _))
      · obtain ⟨s1, acc, eD, hA⟩ := h
        rw [← hlen, List.take_length] at hA
        exact q H1 D acc s1 nD eD hA
theorem pr_fork_from (T : Txt K mg) : ∀ d : Nat, Pr P w K mg base "fork_from" ["tree", "way"] (d + 3) (spFork d)
  | 0 => T.fork_from.none (fun _ _ _ _ _ _ us hl => match us, hl with | [_, _], _ => rfl) fun vs H Q E h => by
    obtain ⟨t, v, a, ws, _, _, _, h, _⟩ := h
    exact (Nat.not_lt_zero _ h).elim
  | d + 1 => by
    have G_is_trip := pr_is_trip (P := P) (w := w) (base := base) T
    have G_own_trips := pr_own_trips (P := P) (w := w) (base := base) T
    have G_fork_from := pr_fork_from T d
    refine T.fork_from.pr sc_fork_from (fun _ _ _ _ _ _ us hl => match us, hl with | [_, _], _ => rfl) (fun vs H Q E h => ?_) (fun cdv A outer s H vs Q E hr h => ?_)
    · obtain ⟨t, v, a, ws, rfl, _⟩ := h
      rfl
    · obtain ⟨t, v, a, ws, rfl, hT, hok, hd, hb, ea, hw, q⟩ := h
      refine ⟨_, (pss_cons (ps_if (pt_cmpR op_gt (pe_callB (call_lenK (K := K)) (by rfl) T.m_len b_len (pa_cons (pe_pr G_own_trips (hr.mono (by omega)) (pa_cons (pv 0) pa_nil)) pa_nil)) pe_int (nomark _)) (pss_one (ps_ret (pv 1))) pss_nil)
 (pss_cons (ps_for PassesOwn.never rfl (pi_enumT T.m_enumerate (pa_cons (pe_ifExp (pt_val (pe_pr G_is_trip (hr.mono (by omega)) (pa_cons (pv 0) pa_nil))) (pe_ix (ix_tupK (K := K)) (pv 0) pe_int (fun _ _ => rfl)) (pe_tup pa_nil)) pa_nil)) (pg_tupK (K := K) rfl (pgs_cons (pg_name (i := 2) sc_fork_from.nd rfl (Or.inl rfl)) (pgs_cons (pg_name (i := 3) sc_fork_from.nd rfl (Or.inl rfl)) pgs_nil))) (pss_cons (ps_set (i := 4) sc_fork_from.nd rfl (Or.inl rfl) (pe_pr G_fork_from (hr.mono (by omega)) (pa_cons (pv 3) (pa_cons (pe_tup (StX.pa_star (pv 1) (pa_cons (pv 2) pa_nil))) pa_nil))))
 (pss_one (ps_if (pt_cmpR op_notN (pv 4) pe_non (nomark _)) (pss_one (ps_ret (pv 4))) pss_nil))))
 (pss_one (ps_ret pe_non)))), ?_⟩
      refine ⟨_, rfl, t, v, rfl, hT, hok, hb, fun H1 D us s1 nD eD hU => ⟨D, us, rfl, .inl (SqL.of eD), _, _, rfl, rfl, _, rfl, ?_⟩⟩
      have hul := hU.len
      rcases hT.cases with ⟨n, rfl, rfl⟩ | ⟨k, ps, a1, b1, vs, rfl, rfl, e1, e2, hP⟩
      · have hz : us.length = 0 := hul.symm
        refine ite2 (fun h => absurd (of_decide_eq_true h) (by omega)) fun _ => ?_
        refine ⟨_, rfl, _, rfl, .inl ⟨n, rfl, _, rfl, iteF ⟨Nat.zero_le _, fun z nz => ?_⟩⟩⟩
        have s2 := s1.trans (same_upd nz (.tup []))
        refine ⟨z, [], rfl, SqT.of upd_same, for_it walk_enumT (fun i σ H2 => H2 = upd H1 z (.tup [])) rfl (fun i σ H2 _ h => by rw [h]; exact SqT.of upd_same) (fun i x σ H2 H3 hi => absurd hi (Nat.not_lt_zero _)) (fun σ H2 h => ?_)⟩
        subst h
        exact q _ _ s2 ⟨fun _ => trivial, fun _ => rfl⟩
      · have hlen := hP.len
        have htn : (trips (.trip k ps)).length = ntr ps := trips_ntr ps
        rw [htn] at hul
        refine ite2 (fun h => ?_) fun h => ?_
        · have h2 := of_decide_eq_true h
          refine ⟨_, rfl, q _ _ s1 ⟨fun h => (nomatch h), fun hn => absurd hn (nest_not (k := k) (ps := ps) (by omega))⟩⟩
        · have hn1 : ntr ps ≤ 1 := by
            have : ¬ ((us.length : Int) > 1) := fun z => h (decide_eq_true z)
            omega
          refine ⟨_, rfl, _, rfl, .inr ⟨a1, _, rfl, s1 _ _ e1, _, rfl, iteT ⟨_, rfl, a1, _, 1, .ref b1, rfl, rfl, SqT.of (s1 _ _ e1), rfl, ?_⟩⟩⟩
          refine ⟨b1, vs, rfl, SqT.of (s1 _ _ e2), for_it walk_enumT (fun i σ H2 => Same H H2 ∧ (∀ p ∈ ps.take i, Nest p) ∧ ∃ y1 y2 y3, σ = [some (.ref a1), some (.ref a), y1, y2, y3])
            ⟨s1, fun p hp => by simp at hp, none, none, none, rfl⟩ (fun i σ H2 _ h => SqT.of (h.1 _ _ e2)) (fun i x σ H2 H3 hi h hy => ?_) (fun σ H2 h => ?_)⟩
          · obtain ⟨s2, hN, y1, y2, y3, rfl⟩ := h
            obtain ⟨Tp, x1, x2, rfl, nT, rfl, hx1, hx2⟩ := hy
            have hx1 : x1 = .int (i : Nat) := (Option.some.inj hx1).symm
            subst hx1
            obtain ⟨p, hp, hT1⟩ := hP.get hx2
            have hm : p ∈ ps := List.mem_of_getElem? hp
            have hdp := part_dep hm
            have hbp := part_btns hm
            simp only [dep] at hd hw
            simp only [btns] at hb
            have s3 := s2.trans (same_upd nT (.tup [.int (i : Nat), x2]))
            refine ⟨Tp, _, rfl, SqT.of upd_same, rfl, _, _, rfl, _, _, rfl, rfl, ?_⟩
            refine ⟨_, rfl, _, rfl, a, ws, rfl, .inl (SqT.of (s3 _ _ ea)), _, rfl, le_line (by rw [List.length_append]; simp; omega), fun wp nw => ?_⟩
            have s4 := s3.trans (same_upd nw (.tup (ws ++ [.int (i : Nat)])))
            refine ⟨p, x2, wp, _, rfl, hT1.mono s4.T, okL_iff.mp hok.2.2 p hm, by omega, by omega, upd_same, by rw [List.length_append]; simp; omega, fun H4 r s5 hr => ?_⟩
            refine ⟨_, rfl, rfl, _, rfl, ?_⟩
            have etk : ps.take (i + 1) = ps.take i ++ [p] := by rw [List.take_add_one, hp]; rfl
            by_cases c : r = .non
            · subst c
              refine iteF ⟨s4.trans s5, fun p' hp' => ?_, _, _, _, rfl⟩
              rw [etk] at hp'
              rcases List.mem_append.mp hp' with h | h
              · exact hN p' h
              · rw [List.mem_singleton.mp h]
                exact hr.mp rfl
            · have : (!decide (r = .non)) = true := by simp [c]
              rw [this]
              refine iteT ⟨_, rfl, q _ _ (s4.trans s5) ⟨fun h => absurd h c, fun hn => absurd (hr.mpr ((nestL_iff.mp hn.2) p hm)) c⟩⟩
          · obtain ⟨s2, hN, _⟩ := h
            rw [← hlen, List.take_length] at hN
            exact q _ _ s2 ⟨fun _ => ⟨hn1, nestL_iff.mpr hN⟩, fun _ => rfl⟩
theorem pr_weight_over (T : Txt K mg) : Pr P w K mg base "weight_over" ["k", "many", "a", "b"] 1 spWov := by
  refine T.weight_over.pr sc_weight_over (fun _ _ _ _ _ _ us hl => match us, hl with | [_, _, _, _], _ => rfl) (fun vs H Q E h => ?_) (fun cdv A outer s H vs Q E hr h => ?_)
  · obtain ⟨k, m, a, b, rfl, _⟩ := h
    rfl
  · obtain ⟨k, m, a, b, rfl, q⟩ := h
    refine ⟨_, (pss_cons (ps_if (pt_cmpR op_lt (pv 0) pe_int (nomark _)) (pss_one (ps_ret (pv 2))) pss_nil)
 (pss_one (ps_ret (pe_ifExp (pt_cmpR op_ge (pv 1) (pv 0) (nomark _)) (pe_callB (call_max2 rfl) (by rfl) T.m_max b_max (pa_cons (pv 2) (pa_cons (pv 3) pa_nil))) (pv 3))))), ?_⟩
    unfold wov at q
    refine ⟨_, rfl, _, _, rfl, rfl, _, rfl, ite2 (fun h => ?_) fun h => ?_⟩
    · rw [if_pos (of_decide_eq_true h)] at q
      exact ⟨_, rfl, q⟩
    · rw [if_neg (fun z => h (decide_eq_true z))] at q
      refine ⟨_, rfl, _, rfl, _, _, rfl, rfl, _, rfl, ite2 (fun h2 => ?_) fun h2 => ?_⟩
      · rw [if_pos (of_decide_eq_true h2)] at q
        exact ⟨_, rfl, _, rfl, a, b, rfl, q⟩
      · rw [if_neg (fun z => h2 (decide_eq_true z))] at q
        exact ⟨_, rfl, q⟩
end
end K94

/-! K94D5: level_rows, pairs_and_weights, nests and their scales. -/
namespace K94
open PySem L2 PySem.Spec PyProof.Rows
theorem rowsT_trip {q : Tree} (h : isTrip q = true) : ∃ k ps, q = .trip k ps := by
  cases q with
  | btn n => cases h
  | trip k ps => exact ⟨k, ps, rfl⟩
theorem rows_len : (∀ t, (rowsT t).length ≤ dep t + 1) ∧ ∀ ps, (rowsL ps).length ≤ depL ps + 1 := by
  refine tree_ind (fun n => by simp [rowsT]) (fun k ps ih => ?_) (by simp [rowsL]) (fun p r h1 h2 => ?_)
  · simp only [rowsT, dep, List.length_cons]
    omega
  · simp only [rowsL, depL]
    split <;> omega
theorem dep_le_filter {ps : List Tree} {d : Nat} (h : depL ps ≤ d) : depL (ps.filter isTrip) ≤ d := by
  rw [depL_le] at h ⊢
  exact fun p hp => h p (List.mem_filter.mp hp).1
section
variable {mg : Str → Option Value} {K : PySem.W.Frag} {P : Program} {w : World} {base : Heap}
theorem pr_level_rows (T : Txt K mg) (d : Nat) : Pr P w K mg base "level_rows" ["tree"] (d + 7) (spRows d) := by
  have G_is_trip := pr_is_trip (P := P) (w := w) (base := base) T
  have G_own_trips := pr_own_trips (P := P) (w := w) (base := base) T
  have G_own_buttons := pr_own_buttons (P := P) (w := w) (base := base) T
  have G_told := pr_told (P := P) (w := w) (base := base) T d
  refine T.level_rows.pr sc_level_rows (fun _ _ _ _ _ _ us hl => match us, hl with | [_], _ => rfl) (fun vs H Q E h => ?_) (fun cdv A outer s H vs Q E hr h => ?_)
  · obtain ⟨t, v, rfl, _⟩ := h
    rfl
  · obtain ⟨t, v, rfl, hT, hok, hd, hd30, hb, hN, q⟩ := h
    refine ⟨_, (pss_cons (ps_par (i := 1) (j := 2) rfl sc_level_rows.nd rfl rfl (by decide) rfl rfl (pa_cons (pe_lst pa_nil) (pa_cons (pe_pr G_told (hr.mono (by omega)) (pa_cons (pv 0) pa_nil)) pa_nil)) (by rfl))
 (pss_cons (ps_if (pt_not (pt_val (pe_pr G_is_trip (hr.mono (by omega)) (pa_cons (pv 2) pa_nil)))) (pss_one (ps_ret (pe_lst (pa_cons (pe_tup (pa_cons pe_int (pa_cons (pe_tup (pa_cons (pv 2) pa_nil)) pa_nil))) pa_nil)))) pss_nil)
 (pss_cons (ps_while PassesOwn.never (pt_cmpR op_notN (pv 2) pe_non (nomark _)) (pss_cons (ps_expr (pe_bm PySem.F.plainAttrs_list PySem.F.slot_list_append PySem.F.type_list_append mt_append (pv 1) (pa_cons (pe_tup (pa_cons (pe_ix (ix_tupK (K := K)) (pv 2) pe_int (fun _ _ => rfl)) (pa_cons (pe_callTy call_tuple_of (by rfl) T.m_tuple b_tuple (pa_cons (pe_pr G_own_buttons (hr.mono (by omega)) (pa_cons (pv 2) pa_nil)) pa_nil)) pa_nil))) pa_nil)))
 (pss_cons (ps_set (i := 3) sc_level_rows.nd rfl (Or.inl rfl) (pe_pr G_own_trips (hr.mono (by omega)) (pa_cons (pv 2) pa_nil)))
 (pss_one (ps_set (i := 2) sc_level_rows.nd rfl (Or.inl rfl) (pe_ifExp (pt_cmpR (op_neE hr.units (K := K)) (pv 3) (pe_lst pa_nil) (nomark _)) (pe_ix (ix_listK (K := K)) (pv 3) pe_int (fun _ _ => rfl)) pe_non))))))
 (pss_one (ps_ret (pv 1)))))), ?_⟩
    refine ⟨Nat.zero_le _, fun F nF => ?_⟩
    have s0 := same_upd (H := H) nF (.lst [])
    refine ⟨_, rfl, t, v, rfl, hT.mono s0.T, hok, hd, hb, fun H1 t' u s1 hO hU => ?_⟩
    have s01 := s0.trans s1
    have eF := s1 _ _ (upd_same : upd H F (.lst []) F = some (.lst []))
    have hN' := hO.nest hN
    have hbt : (btns t').length ≤ 1000 := by rw [hO.btns.length_eq]; exact hb
    have hdt : dep t' ≤ 30 := Nat.le_trans hO.dep hd30
    refine ⟨_, _, rfl, _, rfl, _, rfl, ?_⟩
    rcases hU.cases with ⟨n, rfl, rfl⟩ | ⟨k, ps, a, b, vs, rfl, rfl, e1, e2, hP⟩
    · refine .inl ⟨n, rfl, _, rfl, iteT ⟨_, rfl, le_line (by simp), fun p1 n1 => ⟨le_line (by simp), fun p2 n2 => ⟨le_line (by simp), fun p3 n3 => ?_⟩⟩⟩⟩
      have m1 := same_upd n1 (.tup [.int n])
      have m2 := same_upd n2 (.tup [.int 1, .ref p1])
      have m3 := same_upd n3 (.lst [.ref p2])
      have hnp : H p3 = none := by
        cases e : H p3 with
        | none => rfl
        | some o => have := ((s01.trans m1).trans m2) _ _ e; rw [n3] at this; cases this
      refine q _ p3 [.ref p2] (.btn n) (((s01.trans m1).trans m2).trans m3) hO hnp upd_same ?_ (by simp)
      exact .cons ⟨p2, p1, rfl, m3 _ _ upd_same, m3 _ _ (m2 _ _ upd_same)⟩ .nil
    · refine .inr ⟨a, _, rfl, e1, _, rfl, iteF ?_⟩
      refine ⟨fun m σ H2 => ∃ us rest y acc, σ = [some v, some (.ref F), some rest, y] ∧ Same H H2 ∧ H2 F = some (.lst us) ∧ F2 (LRow H2) acc us ∧ us.length ≤ 32 - m ∧
        ((rest = .non ∧ acc = rowsT (.trip k ps) ∧ m = 0) ∨ ∃ q, isTrip q = true ∧ TAt H2 q rest ∧ Ok q ∧ (btns q).length ≤ 1000 ∧ dep q ≤ 30 ∧ acc ++ rowsT q = rowsT (.trip k ps) ∧ m = dep q + 1),
        ⟨_, [], .ref a, none, [], rfl, s01, eF, .nil, by simp, .inr ⟨_, rfl, hU, hO.ok, hbt, hdt, rfl, rfl⟩⟩, fun m σ H2 hW => ?_⟩
      obtain ⟨us, rest, y, acc, rfl, s2, eF2, hA, hul, hcase⟩ := hW
      rcases hcase with ⟨rfl, rfl, rfl⟩ | ⟨qt, hqt, hQ, hqo, hqb, hqd, hacc, rfl⟩
      · refine ⟨_, rfl, rfl, _, rfl, iteF ⟨_, rfl, ?_⟩⟩
        exact q H2 F us _ s2 hO nF eF2 hA (by omega)
      · obtain ⟨j, qs, rfl⟩ := rowsT_trip hqt
        obtain ⟨a2, b2, ws, rfl, f1, f2, hQP⟩ := hQ.trip
        have hql := hQP.len
        have hq1000 : qs.length ≤ 1000 := by
          have := btns_pos_both.2 _ hqo.2.2
          simp only [btns] at hqb
          omega
        refine ⟨_, rfl, rfl, _, rfl, iteT ⟨fun σ' H' => ∃ m', m' < dep (.trip j qs) + 1 ∧ ∃ us rest y acc, σ' = [some v, some (.ref F), some rest, y] ∧ Same H H' ∧ H' F = some (.lst us) ∧ F2 (LRow H') acc us ∧ us.length ≤ 32 - m' ∧
          ((rest = .non ∧ acc = rowsT (.trip k ps) ∧ m' = 0) ∨ ∃ q, isTrip q = true ∧ TAt H' q rest ∧ Ok q ∧ (btns q).length ≤ 1000 ∧ dep q ≤ 30 ∧ acc ++ rowsT q = rowsT (.trip k ps) ∧ m' = dep q + 1), fun σ' H' h => h, ?_⟩⟩
        refine ⟨_, rfl, .inl ⟨rfl, _, SqL.of eF2⟩, _, rfl, a2, _, 0, .int j, rfl, rfl, SqT.of f1, rfl, _, rfl, j, qs, _, rfl, hQ, hq1000, fun H3 D s3 nD eD => ?_⟩
        refine ⟨D, _, rfl, .inl ⟨SqL.of eD, fun r nr => ⟨le_line (by simp), fun p2 n2 => ?_⟩⟩⟩
        have m3 := same_upd nr (.tup ((own qs).map V.int))
        have m4 := same_upd n2 (.tup [.int j, .ref r])
        have s24 := (s3.trans m3).trans m4
        have eF4 := s24 _ _ eF2
        refine ⟨F, us, .ref p2, rfl, rfl, eF4, lt_line (by omega), ?_⟩
        have hq5 : ∀ t v, TAt H2 t v → TAt (upd (upd (upd H3 r (.tup ((own qs).map V.int))) p2 (.tup [.int j, .ref r])) F (.lst (us ++ [.ref p2]))) t v := fun t v h => h.mono (s24.T.trans (SameT.lst eF4 _))
        have sF : Same H (upd (upd (upd H3 r (.tup ((own qs).map V.int))) p2 (.tup [.int j, .ref r])) F (.lst (us ++ [.ref p2]))) := (s2.trans s24).upd nF _
        refine ⟨_, rfl, _, _, rfl, hq5 _ _ hQ, hqo, hqb, fun H6 I iu s6 nI eI hI => ?_⟩
        have hil := hI.len
        have hF6 := s6 _ _ (upd_same : upd (upd (upd H3 r (.tup ((own qs).map V.int))) p2 (.tup [.int j, .ref r])) F (.lst (us ++ [.ref p2])) F = some (.lst (us ++ [.ref p2])))
        have hdl : depL qs ≤ 29 := by
          simp only [dep] at hqd
          omega
        refine ⟨_, rfl, Nat.zero_le _, fun z nz => ?_⟩
        have m7 := same_upd nz (.lst [])
        have hI7 := PAt.mono hI m7.T
        have hA7 : F2 (LRow (upd H6 z (.lst []))) (acc ++ [(j, own qs)]) (us ++ [.ref p2]) := by
          refine (lrows_mono ((s24.T.trans (SameT.lst eF4 _)).trans (s6.T.trans m7.T)) hA).snoc ⟨p2, r, rfl, ?_, ?_⟩
          · exact m7 _ _ (s6 _ _ (SameT.lst eF4 _ _ _ upd_same))
          · exact m7 _ _ (s6 _ _ (SameT.lst eF4 _ _ _ (m4 _ _ upd_same)))
        refine ⟨I, z, iu, rfl, rfl, SqL.of (m7 _ _ eI), SqL.of upd_same, DatL.trees hI7 (dep_le_filter (by omega)), _, rfl, ?_⟩
        have hrows : rowsT (.trip j qs) = (j, own qs) :: rowsL qs := rfl
        have htr := rowsL_trips qs
        have hII : trips (.trip j qs) = qs.filter isTrip := rfl
        rw [hII] at hil hI7
        have hdep1 : 1 ≤ dep (.trip j qs) + 1 := by omega
        have hus : us.length ≤ 32 - (dep (.trip j qs) + 1) := hul
        simp only [dep] at hus hqd ⊢
        cases hf : qs.filter isTrip with
        | nil =>
          rw [hf] at hil htr
          have : iu = [] := List.eq_nil_of_length_eq_zero hil.symm
          subst this
          refine iteF ⟨0, by omega, us ++ [.ref p2], .non, _, acc ++ [(j, own qs)], rfl, (sF.trans s6).trans m7, m7 _ _ hF6, hA7, by rw [List.length_append]; simp; omega, .inl ⟨rfl, ?_, rfl⟩⟩
          rw [← hacc, hrows, htr]
        | cons p r2 =>
          rw [hf] at hil htr hI7
          have hm : p ∈ qs.filter isTrip := by rw [hf]; exact List.mem_cons_self
          obtain ⟨hm1, hm2⟩ := List.mem_filter.mp hm
          obtain ⟨x, hx, hTx⟩ := hI7.get' (i := 0) (a := p) rfl
          have hdp := part_dep hm1
          have hbp := part_btns hm1
          simp only [btns] at hqb
          have hne : (!iu.isEmpty) = true := by
            cases iu with
            | nil => simp at hx
            | cons _ _ => rfl
          rw [hne]
          refine iteT ⟨_, rfl, I, iu, 0, x, rfl, rfl, SqL.of (m7 _ _ eI), atI_nat (j := 0) hx, dep p + 1, by omega, us ++ [.ref p2], x, _, acc ++ [(j, own qs)], rfl, (sF.trans s6).trans m7, m7 _ _ hF6, hA7, ?_, .inr ⟨p, hm2, hTx, okL_iff.mp hqo.2.2 p hm1, by omega, by omega, ?_, rfl⟩⟩
          · rw [List.length_append]
            simp
            omega
          · rw [← hacc, hrows, htr]
            simp
end
end K94

/-! K94D6: pairs_and_weights, is_nest, scale_of. -/
namespace K94
open PySem L2 PySem.Spec PyProof.Rows
theorem F2.unsnoc {α β : Type} {R : α → β → Prop} {as : List α} {a : α} {bs : List β} (h : F2 R (as ++ [a]) bs) : ∃ bs' b, bs = bs' ++ [b] ∧ F2 R as bs' ∧ R a b := by
  induction as generalizing bs with
  | nil =>
    cases h with
    | cons r t =>
      cases t
      exact ⟨[], _, rfl, .nil, r⟩
  | cons x as ih =>
    cases h with
    | cons r t =>
      obtain ⟨bs', b, rfl, h1, h2⟩ := ih t
      exact ⟨_ :: bs', b, rfl, .cons r h1, h2⟩
theorem F2.rev {α β : Type} {R : α → β → Prop} {as : List α} {bs : List β} (h : F2 R as bs) : F2 R as.reverse bs.reverse := by
  induction h with
  | nil => exact .nil
  | cons r _ ih =>
    rw [List.reverse_cons, List.reverse_cons]
    exact ih.snoc r
def prs : List Row → List (Int × Int)
  | [] => []
  | r :: rs => pr (r :: rs) :: prs rs
theorem prs_len : ∀ rs : List Row, (prs rs).length = rs.length
  | [] => rfl
  | r :: rs => by simp [prs, prs_len rs]
theorem pr_cons {r x : Row} {rs : List Row} : pr (r :: x :: rs) = ((pr (x :: rs)).1 + (r.1 - 1) * wov r.1 r.2.length (pr (x :: rs)).1 (pr (x :: rs)).2, (pr (x :: rs)).2 + ((r.2.length : Int) - r.1 + 1) * wov r.1 r.2.length (pr (x :: rs)).1 (pr (x :: rs)).2) := by
  obtain ⟨k, bs⟩ := r
  rfl
theorem wts_cons {r x : Row} {rs : List Row} : wts (r :: x :: rs) = wov r.1 r.2.length (pr (x :: rs)).1 (pr (x :: rs)).2 :: wts (x :: rs) := by
  obtain ⟨k, bs⟩ := r
  rfl
theorem rows_small : (∀ t, Ok t → (btns t).length ≤ 1000 → ∀ r ∈ rowsT t, 0 ≤ r.1 ∧ r.1 ≤ 1000 ∧ r.2.length ≤ 1000) ∧ ∀ ps, OkL ps → (btnsL ps).length ≤ 1000 → ∀ r ∈ rowsL ps, 0 ≤ r.1 ∧ r.1 ≤ 1000 ∧ r.2.length ≤ 1000 := by
  refine tree_ind (fun n _ _ r hr => ?_) (fun k ps ih ok hb r hr => ?_) (fun _ _ r hr => ?_) (fun p rs h1 h2 ok hb r hr => ?_)
  · simp only [rowsT, List.mem_singleton] at hr
    subst hr
    exact ⟨(by decide : (0 : Int) ≤ 1), (by decide : (1 : Int) ≤ 1000), by simp⟩
  · simp only [rowsT, List.mem_cons] at hr
    simp only [btns] at hb
    have h1 := btns_pos_both.2 _ ok.2.2
    have h2 := own_len ps
    rcases hr with rfl | hr
    · have k1 := ok.1
      have k2 := ok.2.1
      exact ⟨by show 0 ≤ k; omega, by show k ≤ 1000; omega, by show (own ps).length ≤ 1000; omega⟩
    · exact ih ok.2.2 hb r hr
  · simp [rowsL] at hr
  · simp only [btnsL, List.length_append] at hb
    simp only [rowsL] at hr
    split at hr
    · exact h1 ok.1 (by omega) r hr
    · exact h2 ok.2 (by omega) r hr
def spPw : Sp := fun vs H Q _ => ∃ (rows : List Row) (a : Addr) (us : List V), vs = [.ref a] ∧ H a = some (.tup us) ∧ F2 (LRow H) rows us ∧ rows ≠ [] ∧ rows.length ≤ 1000 ∧ (∀ r ∈ rows, 0 ≤ r.1 ∧ r.1 ≤ 1000 ∧ r.2.length ≤ 1000) ∧
  ∀ H' q p w ps, Same H H' → H' q = some (.tup [.ref p, .ref w]) → H' p = some (.lst ps) → F2 (RowAt H') (prs rows) ps → H' w = some (.lst ((wts rows).map V.int)) → Q (.ref q) H'
def spSwap (d : Nat) : Sp := fun vs H Q _ => ∃ t v, vs = [v] ∧ TAt H t v ∧ Ok t ∧ dep t < d ∧ dep t ≤ 30 ∧ (btns t).length ≤ 1000 ∧ Nest t ∧ ∀ H', Same H H' → Q .non H'
def spFk (d : Nat) : Sp := fun vs H Q _ => ∃ t v, vs = [v] ∧ TAt H t v ∧ Ok t ∧ dep t < d ∧ dep t ≤ 30 ∧ (btns t).length ≤ 1000 ∧ ∀ H' r t', Same H H' → ToldOf t t' → (r = .non ↔ Nest t') → Q r H'
def spIsNest (d : Nat) : Sp := fun vs H Q _ => ∃ t v, vs = [v] ∧ TAt H t v ∧ Ok t ∧ dep t < d ∧ dep t ≤ 30 ∧ (btns t).length ≤ 1000 ∧ ∀ H' b t', Same H H' → ToldOf t t' → (b = true ↔ Nest t') → Q (.bl b) H'
def spLevels (d : Nat) : Sp := fun vs H Q _ => ∃ t v, vs = [v] ∧ TAt H t v ∧ Ok t ∧ dep t < d ∧ dep t ≤ 30 ∧ (btns t).length ≤ 1000 ∧ Nest t ∧
  ∀ H' D us t', Same H H' → ToldOf t t' → H' D = some (.tup us) → F2 (LRow H') (rowsT t') us → us.length ≤ 40 → Q (.ref D) H'
def spScaleOf (d : Nat) : Sp := fun vs H Q _ => ∃ t v, vs = [v] ∧ TAt H t v ∧ Ok t ∧ dep t < d ∧ dep t ≤ 30 ∧ (btns t).length ≤ 1000 ∧ Nest t ∧
  ∀ H' t' rows u, Same H H' → ToldOf t t' → rows.Perm (swz (rowsT t') (wts (rowsT t'))) → ScAt H' rows (pr (rowsT t')).1 u → Q u H'
theorem mul_ok {i j : Int} (h : -2000 ≤ i) (h2 : i ≤ 2000) : CMul i j := .inl ⟨by omega, by omega⟩
section
variable {mg : Str → Option Value} {K : PySem.W.Frag} {P : Program} {w : World} {base : Heap}
theorem pr_pairs_and_weights (T : Txt K mg) : Pr P w K mg base "pairs_and_weights" ["rows"] 2 spPw := by
  have G_weight_over := pr_weight_over (P := P) (w := w) (base := base) T
  refine T.pairs_and_weights.pr sc_pairs_and_weights (fun _ _ _ _ _ _ us hl => match us, hl with | [_], _ => rfl) (fun vs H Q E h => ?_) (fun cdv A outer s H vs Q E hr h => ?_)
  · obtain ⟨rows, a, us, rfl, _⟩ := h
    rfl
  · obtain ⟨rows, a, us, rfl, ea, hR, hne, hlen, hsm, q⟩ := h
    refine ⟨_, (pss_cons (ps_asg (pe_ix (ix_tupK (K := K)) (pv 0) (pe_un un_neg pe_int) (fun _ _ => rfl)) (pg_tupK (K := K) rfl (pgs_cons (pg_name (i := 1) sc_pairs_and_weights.nd rfl (Or.inl rfl)) (pgs_cons (pg_name (i := 2) sc_pairs_and_weights.nd rfl (Or.inl rfl)) pgs_nil))))
 (pss_cons (ps_par (i := 3) (j := 4) rfl sc_pairs_and_weights.nd rfl rfl (by decide) rfl rfl (pa_cons (pe_lst (pa_cons (pe_tup (pa_cons (pv 1) (pa_cons (pe_op op_add (pe_op op_sub (pe_callB (call_lenK (K := K)) (by rfl) T.m_len b_len (pa_cons (pv 2) pa_nil)) (pv 1)) pe_int) pa_nil))) pa_nil)) (pa_cons (pe_lst (pa_cons pe_int pa_nil)) pa_nil)) (by rfl))
 (pss_cons (ps_for PassesOwn.never rfl (pi_tupK (K := K) (pe_rev2T (pv 0))) (pg_tupK (K := K) rfl (pgs_cons (pg_name (i := 5) sc_pairs_and_weights.nd rfl (Or.inl rfl)) (pgs_cons (pg_name (i := 6) sc_pairs_and_weights.nd rfl (Or.inl rfl)) pgs_nil))) (pss_cons (ps_asg (pe_tup (pa_cons (pe_ix (ix_listK (K := K)) (pv 3) (pe_un un_neg pe_int) (fun _ _ => rfl)) (pa_cons (pe_callB (call_lenK (K := K)) (by rfl) T.m_len b_len (pa_cons (pv 6) pa_nil)) pa_nil))) (pg_tupK (K := K) rfl (pgs_cons (pg_tupK (K := K) rfl (pgs_cons (pg_name (i := 7) sc_pairs_and_weights.nd rfl (Or.inl rfl)) (pgs_cons (pg_name (i := 8) sc_pairs_and_weights.nd rfl (Or.inl rfl)) pgs_nil))) (pgs_cons (pg_name (i := 9) sc_pairs_and_weights.nd rfl (Or.inl rfl)) pgs_nil))))
 (pss_cons (ps_set (i := 10) sc_pairs_and_weights.nd rfl (Or.inl rfl) (pe_pr G_weight_over (hr.mono (by omega)) (pa_cons (pv 5) (pa_cons (pv 9) (pa_cons (pv 7) (pa_cons (pv 8) pa_nil))))))
 (pss_cons (ps_expr (pe_bm PySem.F.plainAttrs_list PySem.F.slot_list_append PySem.F.type_list_append mt_append (pv 3) (pa_cons (pe_tup (pa_cons (pe_op op_add (pv 7) (pe_op op_mul (pe_op op_sub (pv 5) pe_int) (pv 10))) (pa_cons (pe_op op_add (pv 8) (pe_op op_mul (pe_op op_add (pe_op op_sub (pv 9) (pv 5)) pe_int) (pv 10))) pa_nil))) pa_nil)))
 (pss_one (ps_expr (pe_bm PySem.F.plainAttrs_list PySem.F.slot_list_append PySem.F.type_list_append mt_append (pv 4) (pa_cons (pv 10) pa_nil))))))))
 (pss_one (ps_ret (pe_tup (pa_cons (pe_revL (pv 3)) (pa_cons (pe_revL (pv 4)) pa_nil)))))))), ?_⟩
    obtain ⟨ro, lastr, rfl⟩ : ∃ ro l, rows = ro ++ [l] := ⟨_, _, (List.dropLast_concat_getLast hne).symm⟩
    obtain ⟨uo, ul, rfl, hRo, hLl⟩ := hR.unsnoc
    have hlo := hRo.len
    rw [List.length_append] at hlen
    simp only [List.length_singleton] at hlen
    obtain ⟨la, lb, rfl, el1, el2⟩ := hLl
    obtain ⟨k, bs⟩ := lastr
    have el1 : H la = some (.tup [.int k, .ref lb]) := el1
    have el2 : H lb = some (.tup (bs.map V.int)) := el2
    refine ⟨_, rfl, 1, rfl, a, _, -1, .ref la, rfl, rfl, SqT.of ea, atI_last _ _, la, _, rfl, SqT.of el1, rfl, _, _, rfl, _, _, rfl, rfl, ?_⟩
    refine ⟨_, rfl, _, rfl, lb, _, rfl, .inr (SqT.of el2), _, rfl, _, _, rfl, rfl, _, _, rfl, rfl, le_line (by simp), fun p1 n1 => ⟨le_line (by simp), fun p n2 => ?_⟩⟩
    have m1 := same_upd n1 (.tup [.int k, .int ((bs.map V.int).length - k + 1)])
    have m2 := same_upd n2 (.lst [.ref p1])
    refine ⟨le_line (by simp), fun w n3 => ?_⟩
    have m3 := same_upd n3 (.lst [.int 1])
    have s3 := (m1.trans m2).trans m3
    have np : H p = none := m1.free n2
    have nw : H w = none := (m1.trans m2).free n3
    have hpw : w ≠ p := fun z => by
      rw [z, upd_same] at n3
      cases n3
    have e4 := s3 _ _ ea
    have hLo := lrows_mono s3.T hRo
    refine ⟨_, _, rfl, _, rfl, a, _, rfl, SqT.of e4, fun c nc => ?_⟩
    have m4 := same_upd nc (.tup (uo ++ [V.ref la]).dropLast.reverse)
    rw [List.dropLast_concat] at m4 ⊢
    have s4 := s3.trans m4
    have hRr := (lrows_mono m4.T hLo).rev
    refine ⟨c, rfl, ⟨uo.reverse, SqT.of upd_same⟩, for_tup (K := K) (a := c) (xs := uo.reverse) (fun i σ H5 => SameT (upd (upd (upd (upd H p1 _) p _) w _) c (.tup uo.reverse)) H5 ∧ Same H H5 ∧ (∃ y1 y2 y3 y4 y5 y6, σ = [some (.ref a), some (.int k), some (.ref lb), some (.ref p), some (.ref w), y1, y2, y3, y4, y5, y6]) ∧
      ∃ ps, H5 p = some (.lst ps) ∧ F2 (RowAt H5) (prs ((ro.reverse.take i).reverse ++ [(k, bs)])).reverse ps ∧ H5 w = some (.lst (((wts ((ro.reverse.take i).reverse ++ [(k, bs)])).reverse).map V.int)))
      ⟨SameT.refl _, s4, ⟨none, none, none, none, none, none, rfl⟩, [.ref p1], ?_, ?_, ?_⟩ (fun i σ H5 _ h => SqT.of (h.1 _ _ upd_same)) (fun i x σ H5 hx h => ?_) (fun σ H5 h => ?_)⟩
    · exact m4 _ _ (m3 _ _ upd_same)
    · refine .cons ⟨p1, rfl, ?_⟩ .nil
      have e : H p1 = none := n1
      have := m4 _ _ (m3 _ _ (m2 p1 (.tup [.int k, .int ((bs.map V.int).length - k + 1)]) upd_same))
      simpa [pr] using this
    · exact m4 _ _ upd_same
    · obtain ⟨sT, s5, ⟨y1, y2, y3, y4, y5, y6, rfl⟩, ps, eP, hPs, eW⟩ := h
      obtain ⟨r, hr1, ra, rb, rfl, er1, er2⟩ := hRr.get hx
      have hi : i < ro.reverse.length := (List.getElem?_eq_some_iff.mp hr1).1
      rw [List.length_reverse] at hi
      have hrm : r ∈ ro ++ [(k, bs)] := List.mem_append_left _ (List.mem_reverse.mp (List.mem_of_getElem? hr1))
      obtain ⟨hk0, hk1, hl1⟩ := hsm r hrm
      obtain ⟨kr, bsr⟩ := r
      have er1 := sT _ _ (id er1 : _ = some (HO.tup [.int kr, .ref rb]))
      have er2 := sT _ _ (id er2 : _ = some (HO.tup (bsr.map V.int)))
      have hk0 : 0 ≤ kr := hk0
      have hk1 : kr ≤ 1000 := hk1
      have hl1 : bsr.length ≤ 1000 := hl1
      have etk : (ro.reverse.take (i + 1)).reverse ++ [(k, bs)] = (kr, bsr) :: ((ro.reverse.take i).reverse ++ [(k, bs)]) := by
        rw [List.take_add_one, hr1]
        simp
      rw [etk]
      obtain ⟨x0, S, hS⟩ : ∃ x0 S, (ro.reverse.take i).reverse ++ [(k, bs)] = x0 :: S := by
        cases (ro.reverse.take i).reverse with
        | nil => exact ⟨_, _, rfl⟩
        | cons z zs => exact ⟨_, _, rfl⟩
      rw [hS] at hPs eW ⊢
      have hSl : S.length ≤ 1000 := by
        have := congrArg List.length hS
        simp only [List.length_append, List.length_reverse, List.length_take, List.length_cons, List.length_nil] at this
        omega
      rw [show prs (x0 :: S) = pr (x0 :: S) :: prs S by rfl, List.reverse_cons] at hPs
      obtain ⟨ps', pv, rfl, hPs', tp, rfl, etp⟩ := hPs.unsnoc
      have hpl := hPs'.len
      rw [List.length_reverse, prs_len] at hpl
      have hpp : ps' ++ [V.ref tp] = ps' ++ [V.ref tp] := rfl
      refine ⟨ra, _, rfl, SqT.of er1, rfl, _, _, rfl, _, _, rfl, rfl, ?_⟩
      refine ⟨_, rfl, 1, rfl, p, _, -1, .ref tp, rfl, rfl, SqL.of eP, atI_last _ _, _, rfl, rb, _, rfl, .inr (SqT.of er2), le_line (by simp), fun t1 nt1 => ?_⟩
      rw [show (bsr.map V.int).length = bsr.length by simp]
      have g1 := same_upd nt1 (.tup [.ref tp, .int ((bsr.length : Nat) : Int)])
      refine ⟨t1, _, rfl, SqT.of upd_same, rfl, _, _, rfl, tp, _, rfl, SqT.of (g1 _ _ etp), rfl, _, _, rfl, _, _, rfl, rfl, _, _, rfl, rfl, ?_⟩
      have eP6 := g1 _ _ eP
      have eW6 := g1 _ _ eW
      have s6 := s5.trans g1
      refine ⟨_, rfl, _, rfl, _, rfl, _, rfl, kr, _, _, _, rfl, ?_⟩
      refine ⟨_, rfl, .inl ⟨rfl, _, SqL.of eP6⟩, _, rfl, _, rfl, _, _, rfl, rfl, _, rfl, _, _, rfl, rfl, mul_ok (by omega) (by omega), _, _, rfl, rfl, ?_⟩
      refine ⟨_, rfl, _, rfl, _, rfl, _, _, rfl, rfl, _, _, rfl, rfl, _, rfl, _, _, rfl, rfl, mul_ok (by omega) (by omega), _, _, rfl, rfl, le_line (by simp), fun t2 nt2 => ?_⟩
      generalize hW : wov kr (bsr.length : Int) (pr (x0 :: S)).1 (pr (x0 :: S)).2 = W
      have g2 := same_upd nt2 (.tup [.int ((pr (x0 :: S)).1 + (kr - 1) * W), .int ((pr (x0 :: S)).2 + ((bsr.length : Int) - kr + 1) * W)])
      have eP7 := g2 _ _ eP6
      refine ⟨p, _, .ref t2, rfl, rfl, eP7, lt_line (by simp; omega), ?_⟩
      have eW7 : upd (upd (upd H5 t1 (.tup [.ref tp, .int ((bsr.length : Nat) : Int)])) t2 (.tup [.int ((pr (x0 :: S)).1 + (kr - 1) * W), .int ((pr (x0 :: S)).2 + ((bsr.length : Int) - kr + 1) * W)])) p (.lst (ps' ++ [.ref tp] ++ [.ref t2])) w = some (.lst (((wts (x0 :: S)).reverse).map V.int)) := by
        rw [upd_ne hpw]
        exact g2 _ _ eW6
      refine ⟨_, rfl, .inl ⟨rfl, _, SqL.of eW7⟩, _, rfl, w, _, _, rfl, rfl, eW7, lt_line (by rw [List.length_map, List.length_reverse, wts_length]; simp; omega), ?_⟩
      have sA : SameT H5 (upd (upd (upd (upd H5 t1 (.tup [.ref tp, .int ((bsr.length : Nat) : Int)])) t2 (.tup [.int ((pr (x0 :: S)).1 + (kr - 1) * W), .int ((pr (x0 :: S)).2 + ((bsr.length : Int) - kr + 1) * W)])) p (.lst (ps' ++ [.ref tp] ++ [.ref t2]))) w (.lst (((wts (x0 :: S)).reverse).map V.int ++ [.int W]))) :=
        ((g1.T.trans g2.T).trans (SameT.lst eP7 _)).trans (SameT.lst eW7 _)
      refine ⟨sT.trans sA, ((s6.trans g2).upd np _).upd nw _, ⟨_, _, _, _, _, _, rfl⟩, ps' ++ [.ref tp] ++ [.ref t2], ?_, ?_, ?_⟩
      · rw [upd_ne (Ne.symm hpw)]
        exact upd_same
      · rw [show prs ((kr, bsr) :: x0 :: S) = pr ((kr, bsr) :: x0 :: S) :: (pr (x0 :: S) :: prs S) by rfl, List.reverse_cons, List.reverse_cons, pr_cons]
        show F2 _ (_ ++ [((pr (x0 :: S)).1 + (kr - 1) * wov kr (bsr.length : Int) (pr (x0 :: S)).1 (pr (x0 :: S)).2, (pr (x0 :: S)).2 + ((bsr.length : Int) - kr + 1) * wov kr (bsr.length : Int) (pr (x0 :: S)).1 (pr (x0 :: S)).2)]) _
        rw [hW]
        refine ((F2.mono hPs' fun _ _ x => RowAt.mono sA x).snoc ⟨tp, rfl, sA _ _ etp⟩).snoc ⟨t2, rfl, ?_⟩
        exact (SameT.lst eW7 _) _ _ ((SameT.lst eP7 _) _ _ upd_same)
      · rw [upd_same, wts_cons, List.reverse_cons, List.map_append]
        show some (HO.lst (_ ++ [V.int W])) = some (HO.lst (_ ++ [V.int (wov kr (bsr.length : Int) (pr (x0 :: S)).1 (pr (x0 :: S)).2)]))
        rw [hW]
    · obtain ⟨sT, s5, ⟨y1, y2, y3, y4, y5, y6, rfl⟩, ps, eP, hPs, eW⟩ := h
      have hl : uo.reverse.length = ro.reverse.length := by rw [List.length_reverse, List.length_reverse, hlo]
      rw [hl, List.take_length, List.reverse_reverse] at hPs eW
      refine ⟨_, rfl, p, _, rfl, SqL.of eP, fun p5 n5 => ?_⟩
      have g5 := same_upd n5 (.lst ps.reverse)
      have eW5 := g5 _ _ eW
      refine ⟨_, rfl, w, _, rfl, SqL.of eW5, fun p6 n6 => ?_⟩
      rw [← List.map_reverse, List.reverse_reverse]
      have g6 := same_upd n6 (.lst ((wts (ro ++ [(k, bs)])).map V.int))
      refine ⟨le_line (by simp), fun p7 n7 => ?_⟩
      have g7 := same_upd n7 (.tup [.ref p5, .ref p6])
      have hr := hPs.rev
      rw [List.reverse_reverse] at hr
      refine q _ p7 p5 p6 ps.reverse (((s5.trans g5).trans g6).trans g7) upd_same (g7 _ _ (g6 _ _ upd_same)) (F2.mono hr fun _ _ x => RowAt.mono ((g5.T.trans g6.T).trans g7.T) x) (g7 _ _ upd_same)
end
end K94

/-! K94D7: is_nest, scale_of. -/
namespace K94
open PySem L2 PySem.Spec PyProof.Rows
theorem swz_snoc : ∀ (rs : List Row) (ws : List Int) (r : Row) (w : Int), rs.length = ws.length → swz (rs ++ [r]) (ws ++ [w]) = swz rs ws ++ r.2.map (fun b => (b, w))
  | [], [], r, w, _ => by simp [swz]
  | a :: rs, b :: ws, r, w, h => by
    have ih := swz_snoc rs ws r w (by simpa using h)
    simp only [List.cons_append, swz, ih, List.append_assoc]
  | [], _ :: _, _, _, h => by simp at h
  | _ :: _, [], _, _, h => by simp at h
theorem swz_take_len {rs : List Row} {ws : List Int} (h : rs.length = ws.length) (i : Nat) : (swz (rs.take i) (ws.take i)).length ≤ (swz rs ws).length := by
  induction rs generalizing ws i with
  | nil => simp [swz]
  | cons r rs ih =>
    cases ws with
    | nil => simp [swz]
    | cons w ws =>
      cases i with
      | zero => simp [swz]
      | succ i =>
        have := ih (ws := ws) (by simpa using h) i
        simp only [List.take_succ_cons, swz, List.length_append]
        omega
section
variable {mg : Str → Option Value} {K : PySem.W.Frag} {P : Program} {w : World} {base : Heap}
theorem pr_swap_of (T : Txt K mg) (d : Nat) : Pr P w K mg base "swap_of" ["tree"] (d + 7) (spSwap d) := by
  have G_told := pr_told (P := P) (w := w) (base := base) T d
  have G_fork_from := pr_fork_from (P := P) (w := w) (base := base) T d
  refine T.swap_of.pr sc_swap_of (fun _ _ _ _ _ _ us hl => match us, hl with | [_], _ => rfl) (fun vs H Q E h => ?_) (fun cdv A outer s H vs Q E hr h => ?_)
  · obtain ⟨t, v, rfl, _⟩ := h
    rfl
  · obtain ⟨t, v, rfl, hT, hok, hd, hd30, hb, hN, q⟩ := h
    refine ⟨_, (pss_cons (ps_set (i := 1) sc_swap_of.nd rfl (Or.inl rfl) (pe_pr G_told (hr.mono (by omega)) (pa_cons (pv 0) pa_nil)))
 (pss_cons (ps_set (i := 2) sc_swap_of.nd rfl (Or.inl rfl) (pe_pr G_fork_from (hr.mono (by omega)) (pa_cons (pv 1) (pa_cons (pe_tup pa_nil) pa_nil))))
 (pss_cons (ps_if (pt_cmpR op_isN (pv 2) pe_non (nomark _)) (pss_one (ps_ret pe_non)) pss_nil)
 pss_never))), ?_⟩
    refine ⟨_, rfl, t, v, rfl, hT, hok, hd, hb, fun H1 t' u s1 hO hU => ?_⟩
    have hbt : (btns t').length ≤ 1000 := by rw [hO.btns.length_eq]; exact hb
    have hdt := hO.dep
    refine ⟨_, rfl, Nat.zero_le _, fun z nz => ?_⟩
    have s2 := same_upd nz (.tup [])
    refine ⟨t', u, z, [], rfl, hU.mono s2.T, hO.ok, by omega, hbt, upd_same, by simp; omega, fun H2 r s3 hr => ?_⟩
    have := hr.mpr (hO.nest hN)
    subst this
    exact ⟨_, rfl, rfl, _, rfl, iteT (q _ ((s1.trans s2).trans s3))⟩
theorem pr_fork (T : Txt K mg) (d : Nat) : Pr P w K mg base "fork" ["tree"] (d + 7) (spFk d) := by
  have G_told := pr_told (P := P) (w := w) (base := base) T d
  have G_fork_from := pr_fork_from (P := P) (w := w) (base := base) T d
  refine T.fork.pr sc_fork (fun _ _ _ _ _ _ us hl => match us, hl with | [_], _ => rfl) (fun vs H Q E h => ?_) (fun cdv A outer s H vs Q E hr h => ?_)
  · obtain ⟨t, v, rfl, _⟩ := h
    rfl
  · obtain ⟨t, v, rfl, hT, hok, hd, hd30, hb, q⟩ := h
    refine ⟨_, (pss_one (ps_ret (pe_pr G_fork_from (hr.mono (by omega)) (pa_cons (pe_pr G_told (hr.mono (by omega)) (pa_cons (pv 0) pa_nil)) (pa_cons (pe_tup pa_nil) pa_nil))))), ?_⟩
    refine ⟨_, rfl, t, v, rfl, hT, hok, hd, hb, fun H1 t' u s1 hO hU => ?_⟩
    have hbt : (btns t').length ≤ 1000 := by rw [hO.btns.length_eq]; exact hb
    have hdt := hO.dep
    refine ⟨Nat.zero_le _, fun z nz => ?_⟩
    have s2 := same_upd nz (.tup [])
    refine ⟨t', u, z, [], rfl, hU.mono s2.T, hO.ok, by omega, hbt, upd_same, by simp; omega, fun H2 r s3 hr => ?_⟩
    exact q _ _ t' ((s1.trans s2).trans s3) hO hr
theorem pr_is_nest (T : Txt K mg) (d : Nat) : Pr P w K mg base "is_nest" ["tree"] (d + 8) (spIsNest d) := by
  have G_fork := pr_fork (P := P) (w := w) (base := base) T d
  refine T.is_nest.pr sc_is_nest (fun _ _ _ _ _ _ us hl => match us, hl with | [_], _ => rfl) (fun vs H Q E h => ?_) (fun cdv A outer s H vs Q E hr h => ?_)
  · obtain ⟨t, v, rfl, _⟩ := h
    rfl
  · obtain ⟨t, v, rfl, hT, hok, hd, hd30, hb, q⟩ := h
    refine ⟨_, (pss_one (ps_ret (pe_cmpR op_isN (pe_pr G_fork (hr.mono (by omega)) (pa_cons (pv 0) pa_nil)) pe_non (nomark _)))), ?_⟩
    refine ⟨_, rfl, t, v, rfl, hT, hok, hd, hd30, hb, fun H1 r t' s1 hO hr => ?_⟩
    refine ⟨rfl, ?_⟩
    exact q _ _ t' s1 hO ⟨fun h => hr.mp (of_decide_eq_true h), fun h => decide_eq_true (hr.mpr h)⟩
theorem pr_need_nest (T : Txt K mg) (d : Nat) : Pr P w K mg base "need_nest" ["tree"] (d + 8) (spSwap d) := by
  have G_swap_of := pr_swap_of (P := P) (w := w) (base := base) T d
  refine T.need_nest.pr sc_need_nest (fun _ _ _ _ _ _ us hl => match us, hl with | [_], _ => rfl) (fun vs H Q E h => ?_) (fun cdv A outer s H vs Q E hr h => ?_)
  · obtain ⟨t, v, rfl, _⟩ := h
    rfl
  · obtain ⟨t, v, rfl, hT, hok, hd, hd30, hb, hN, q⟩ := h
    refine ⟨_, (pss_cons (ps_set (i := 1) sc_need_nest.nd rfl (Or.inl rfl) (pe_pr G_swap_of (hr.mono (by omega)) (pa_cons (pv 0) pa_nil)))
 (pss_one (ps_if (pt_cmpR op_notN (pv 1) pe_non (nomark _)) (pss_one ps_never) pss_nil))), ?_⟩
    refine ⟨_, rfl, t, v, rfl, hT, hok, hd, hd30, hb, hN, fun H1 s1 => ?_⟩
    exact ⟨_, rfl, rfl, _, rfl, iteF (q _ s1)⟩
theorem pr_levels (T : Txt K mg) (d : Nat) : Pr P w K mg base "levels" ["tree"] (d + 9) (spLevels d) := by
  have G_need_nest := pr_need_nest (P := P) (w := w) (base := base) T d
  have G_level_rows := pr_level_rows (P := P) (w := w) (base := base) T d
  refine T.levels.pr sc_levels (fun _ _ _ _ _ _ us hl => match us, hl with | [_], _ => rfl) (fun vs H Q E h => ?_) (fun cdv A outer s H vs Q E hr h => ?_)
  · obtain ⟨t, v, rfl, _⟩ := h
    rfl
  · obtain ⟨t, v, rfl, hT, hok, hd, hd30, hb, hN, q⟩ := h
    refine ⟨_, (pss_cons (ps_expr (pe_pr G_need_nest (hr.mono (by omega)) (pa_cons (pv 0) pa_nil)))
 (pss_one (ps_ret (pe_callTy call_tuple_of (by rfl) T.m_tuple b_tuple (pa_cons (pe_pr G_level_rows (hr.mono (by omega)) (pa_cons (pv 0) pa_nil)) pa_nil))))), ?_⟩
    refine ⟨_, rfl, t, v, rfl, hT, hok, hd, hd30, hb, hN, fun H1 s1 => ?_⟩
    refine ⟨_, rfl, t, v, rfl, hT.mono s1.T, hok, hd, hd30, hb, hN, fun H2 D us t' s2 hO nD eD hR hl => ?_⟩
    refine ⟨D, us, rfl, .inl ⟨SqL.of eD, fun r nr => ?_⟩⟩
    have s3 := same_upd nr (.tup us)
    exact q _ r us t' ((s1.trans s2).trans s3) hO upd_same (lrows_mono s3.T hR) hl
theorem pr_scale_of (T : Txt K mg) (d : Nat) : Pr P w K mg base "scale_of" ["tree"] (d + 10) (spScaleOf d) := by
  have G_levels := pr_levels (P := P) (w := w) (base := base) T d
  have G_pairs_and_weights := pr_pairs_and_weights (P := P) (w := w) (base := base) T
  refine T.scale_of.pr sc_scale_of (fun _ _ _ _ _ _ us hl => match us, hl with | [_], _ => rfl) (fun vs H Q E h => ?_) (fun cdv A outer s H vs Q E hr h => ?_)
  · obtain ⟨t, v, rfl, _⟩ := h
    rfl
  · obtain ⟨t, v, rfl, hT, hok, hd, hd30, hb, hN, q⟩ := h
    refine ⟨_, (pss_cons (ps_set (i := 1) sc_scale_of.nd rfl (Or.inl rfl) (pe_pr G_levels (hr.mono (by omega)) (pa_cons (pv 0) pa_nil)))
 (pss_cons (ps_asg (pe_pr G_pairs_and_weights (hr.mono (by omega)) (pa_cons (pv 1) pa_nil)) (pg_tupK (K := K) rfl (pgs_cons (pg_name (i := 2) sc_scale_of.nd rfl (Or.inl rfl)) (pgs_cons (pg_name (i := 3) sc_scale_of.nd rfl (Or.inl rfl)) pgs_nil))))
 (pss_cons (ps_set (i := 4) sc_scale_of.nd rfl (Or.inl rfl) (pe_lst pa_nil))
 (pss_cons (ps_for PassesOwn.never rfl (pi_zipM T.m_zip (pa_cons (pv 1) (pa_cons (pv 3) pa_nil))) (pg_tupK (K := K) rfl (pgs_cons (pg_tupK (K := K) rfl (pgs_cons (pg_name (i := 5) sc_scale_of.nd rfl (Or.inl rfl)) (pgs_cons (pg_name (i := 6) sc_scale_of.nd rfl (Or.inl rfl)) pgs_nil))) (pgs_cons (pg_name (i := 7) sc_scale_of.nd rfl (Or.inr rfl)) pgs_nil))) (pss_one (ps_expr (pe_bm PySem.F.plainAttrs_list PySem.F.slot_list_extend PySem.F.type_list_extend mt_extend (pv 4) (pa_cons (pe_lc (own := [("button", 8)]) (g := gName 8) (by rfl) sc_scale_of.nd (pi_tupK (K := K) (pv 6)) (blkOk_by (own := [("button", 8)]) (N := ["tree", "rows", "pairs", "weights", "found", "bound", "buttons", "weight", "button"]) (sc := defScope s_scale_of) (by decide +kernel)) (fun _ _ _ _ _ => (pg_name (i := 8) sc_scale_of.nd rfl (Or.inl rfl))) (fun _ _ _ _ _ => pts_nil) (fun _ _ _ _ _ => (pe_tup (pa_cons (pv 8) (pa_cons (pv 7) pa_nil))))) pa_nil)))))
 (pss_one (ps_ret (pe_tup (pa_cons (pe_callTy call_tuple_of (by rfl) T.m_tuple b_tuple (pa_cons (pe_callB cr_sortedP (by rfl) T.m_sorted b_sorted (pa_cons (pv 4) pa_nil)) pa_nil)) (pa_cons (pe_ix (ix_tupK (K := K)) (pe_ix (ix_listK (K := K)) (pv 2) pe_int (fun _ _ => rfl)) pe_int (fun _ _ => rfl)) pa_nil))))))))), ?_⟩
    refine ⟨_, rfl, t, v, rfl, hT, hok, hd, hd30, hb, hN, fun H1 L us t' s1 hO eL hR hl => ?_⟩
    have hbt : (btns t').length ≤ 1000 := by rw [hO.btns.length_eq]; exact hb
    have hN' := hO.nest hN
    have hne : rowsT t' ≠ [] := fun z => by
      have := rowsT_ne t'
      rw [z] at this
      cases this
    have hlr := hR.len
    have hwl : (rowsT t').length = (wts (rowsT t')).length := (wts_length _).symm
    refine ⟨_, rfl, rowsT t', L, us, rfl, eL, hR, hne, by omega, rows_small.1 t' hO.ok hbt, fun H2 qq p wv ps s2 eq ep hP ew => ?_⟩
    refine ⟨qq, _, rfl, SqT.of eq, rfl, _, _, rfl, _, _, rfl, rfl, Nat.zero_le _, fun F nF => ?_⟩
    have s3 := same_upd nF (.lst [])
    have s03 := (s1.trans s2).trans s3
    have hsw : (swz (rowsT t') (wts (rowsT t'))).length ≤ 1000 := by
      have := (swz_nest hN').length_eq
      rw [List.length_map] at this
      omega
    refine ⟨_, rfl, _, rfl, L, wv, us, _, rfl, SqT.of (s3 _ _ (s2 _ _ eL)), SqL.of (s3 _ _ ew), for_zipM (K := K) (a := L) (b := wv) (ts := us) (ls := (wts (rowsT t')).map V.int) (by rw [List.length_map, ← hlr, hwl])
      (fun i σ H5 => Same H2 H5 ∧ (∃ y1 y2 y3 y4, σ = [some v, some (.ref L), some (.ref p), some (.ref wv), some (.ref F), y1, y2, y3, y4]) ∧
        ∃ fs, H5 F = some (.lst fs) ∧ F2 (RowAt H5) (swz ((rowsT t').take i) ((wts (rowsT t')).take i)) fs)
      ⟨s3, ⟨none, none, none, none, rfl⟩, [], upd_same, .nil⟩ (fun i σ H5 h => ⟨SqT.of (h.1 _ _ (s2 _ _ eL)), SqL.of (h.1 _ _ ew)⟩) (fun i x y Tp σ H5 hx hy h nT => ?_) (fun σ H5 h => ?_)⟩
    · obtain ⟨s5, ⟨y1, y2, y3, y4, rfl⟩, fs, eF, hF⟩ := h
      obtain ⟨r, hr1, ra, rb, rfl, er1, er2⟩ := hR.get hx
      have hi : i < (rowsT t').length := (List.getElem?_eq_some_iff.mp hr1).1
      obtain ⟨kr, bsr⟩ := r
      have er1 := s5 _ _ (s2 _ _ (id er1 : _ = some (HO.tup [.int kr, .ref rb])))
      have er2 := s5 _ _ (s2 _ _ (id er2 : _ = some (HO.tup (bsr.map V.int))))
      obtain ⟨W, hw1, rfl⟩ : ∃ W, (wts (rowsT t'))[i]? = some W ∧ y = .int W := by
        rw [List.getElem?_map] at hy
        cases e : (wts (rowsT t'))[i]? with
        | none => rw [e] at hy; simp at hy
        | some W => rw [e] at hy; exact ⟨W, rfl, (Option.some.inj hy).symm⟩
      have htk : swz ((rowsT t').take (i + 1)) ((wts (rowsT t')).take (i + 1)) = swz ((rowsT t').take i) ((wts (rowsT t')).take i) ++ bsr.map (fun b => (b, W)) := by
        rw [List.take_add_one, List.take_add_one, hr1, hw1]
        exact swz_snoc _ _ _ _ (by rw [List.length_take, List.length_take, hwl])
      have htl := swz_take_len hwl (i + 1)
      rw [htk, List.length_append, List.length_map, hF.len] at htl
      have g1 := same_upd nT (.tup [.ref ra, .int W])
      have s6 := s5.trans g1
      have eF6 := g1 _ _ eF
      refine ⟨Tp, _, rfl, SqT.of upd_same, rfl, _, _, rfl, ra, _, rfl, SqT.of (g1 _ _ er1), rfl, _, _, rfl, _, _, rfl, rfl, _, _, rfl, rfl, ?_⟩
      refine ⟨_, rfl, .inl ⟨rfl, _, SqL.of eF6⟩, _, rfl, rb, rfl, ⟨_, SqT.of (g1 _ _ er2)⟩, fun D nD => lc_tup (K := K) (a := rb) (xs := bsr.map V.int)
        (fun j H7 => Same H2 H7 ∧ SameT H5 H7 ∧ H7 F = some (.lst fs) ∧ ∃ acc, H7 D = some (.lst acc) ∧ F2 (RowAt H7) ((bsr.take j).map (fun b => (b, W))) acc)
        ⟨s6.upd (s6.free nD) _, g1.T.trans (SameT.new nD _), same_upd nD _ _ _ eF6, [], upd_same, .nil⟩ (fun j H7 _ h => SqT.of (h.2.1 _ _ er2)) (fun j z H7 hz h => ?_) (fun H7 h => ?_)⟩
      · obtain ⟨s7, sT7, eF7, acc, eD, hA⟩ := h
        have nD5 : upd H5 Tp (.tup [.ref ra, .int W]) D = none := nD
        rw [List.getElem?_map] at hz
        cases eb : bsr[j]? with
        | none => rw [eb] at hz; simp at hz
        | some b =>
          rw [eb] at hz
          have hz : z = .int b := (Option.some.inj hz).symm
          subst hz
          have hj : j < bsr.length := (List.getElem?_eq_some_iff.mp eb).1
          have hal := hA.len
          rw [List.length_map, List.length_take] at hal
          refine ⟨rfl, _, rfl, _, rfl, le_line (by simp), fun c nc => ⟨acc, same_upd nc _ _ _ eD, lt_line (by omega), ?_⟩⟩
          have g8 := same_upd nc (.tup [.int b, .int W])
          have eD8 := g8 _ _ eD
          have hDF : F ≠ D := fun z => by
            rw [← z, eF6] at nD5
            cases nD5
          refine ⟨(s7.trans g8).upd (s6.free nD) _, sT7.trans (g8.T.trans (SameT.lst eD8 _)), ?_, _, upd_same, ?_⟩
          · rw [upd_ne hDF]
            exact g8 _ _ eF7
          · rw [List.take_add_one, eb, List.map_append]
            refine (F2.mono hA fun _ _ x => RowAt.mono (g8.T.trans (SameT.lst eD8 _)) x).snoc ⟨c, rfl, ?_⟩
            exact (SameT.lst eD8 _) _ _ upd_same
      · obtain ⟨s7, sT7, eF7, acc, eD, hA⟩ := h
        rw [List.length_map, List.take_length] at hA
        have hal := hA.len
        rw [List.length_map] at hal
        refine ⟨F, D, fs, acc, rfl, rfl, eF7, eD, le_line (by omega), ?_⟩
        refine ⟨s7.upd nF _, ⟨_, _, _, _, rfl⟩, fs ++ acc, upd_same, ?_⟩
        rw [htk]
        exact (F2.mono hF fun _ _ x => RowAt.mono (sT7.trans (SameT.lst eF7 _)) x).app (F2.mono hA fun _ _ x => RowAt.mono (SameT.lst eF7 _) x)
    · obtain ⟨s5, ⟨y1, y2, y3, y4, rfl⟩, fs, eF, hF⟩ := h
      rw [← hlr, List.take_length, hwl, List.take_length] at hF
      refine ⟨_, rfl, F, fs, rfl, SqL.of eF, fun z hz => ?_, fun ys p5 hp5 n5 => ?_⟩
      · obtain ⟨⟨b, W⟩, _, c, rfl, ec⟩ := hF.mem hz
        exact ⟨c, b, W, rfl, ec⟩
      · have g5 := same_upd n5 (.lst ys)
        obtain ⟨ds, hds, hD⟩ := F2.perm hp5 hF
        refine ⟨p5, ys, rfl, .inl ⟨SqL.of upd_same, fun p6 n6 => ?_⟩⟩
        have g6 := same_upd n6 (.tup ys)
        obtain ⟨r0, rs, hr0⟩ : ∃ r0 rs, rowsT t' = r0 :: rs := by
          cases e : rowsT t' with
          | nil => exact absurd e hne
          | cons a b => exact ⟨a, b, rfl⟩
        have hpr : (prs (rowsT t'))[0]? = some (pr (rowsT t')) := by
          rw [hr0]
          rfl
        obtain ⟨pv, hpv, pa, rfl, epa⟩ := hP.get' hpr
        have s7 := (s5.trans g5).trans g6
        refine ⟨_, rfl, p, _, 0, .ref pa, rfl, rfl, SqL.of (s7 _ _ ep), atI_nat (j := 0) hpv, pa, _, 0, _, rfl, rfl, SqT.of (s7 _ _ epa), rfl, le_line (by simp), fun p7 n7 => ?_⟩
        have g7 := same_upd n7 (.tup [.ref p6, .int (pr (rowsT t')).1])
        exact q _ t' ds (.ref p7) (((s1.trans s2).trans s7).trans g7) hO hds ⟨p7, p6, ys, rfl, upd_same, g7 _ _ upd_same, F2.mono hD fun _ _ x => RowAt.mono ((g5.T.trans g6.T).trans g7.T) x⟩
end
end K94

/-! K94D8: the deck, what it draws. -/
namespace K94
open PySem L2 PySem.Spec PyProof.Rows
section
variable {X : Cx} {K : PySem.W.Frag} {o e : Expr} {es : List Expr} {to : TE} {t : TA} {name : Str} {apos cpos : Pos} {T id : String} {r : V → List V → Hp → VK → Prop}
theorem pe_bmK (pa : PlainAttrs T) (slot : Slot T name id) (hty : typeOf (.builtin id) = pure (.type "method_descriptor")) (hm : MtR X id r) (ho : PE X o to) (ha : PA X (e :: es) t)
    (hbase : attributeBase o name X.env (eval o X.env) = eval o X.env := by rfl)
    (hfew : ((backTo cpos (starEach (e :: es) X.env)).all (fun x => !x.1) && (backToKw cpos (keywordEach [] X.env)).all (fun x => x.1.isSome)
      && decide ((e :: es).length + ([] : List Keyword).length + (if ([] : List Keyword).isEmpty then 0 else 1) < 30)) = true := by rfl)
    (hline : (apos.endLine == cpos.line) = true := by rfl) (hs : starEach (e :: es) X.env = (false, eval e X.env) :: starEach es X.env := by rfl) (hplain : (backTo cpos (starEach es X.env)).any (·.1) = false := by rfl)
    (hk : X.K = K := by rfl) : PE X (.Call (.Attribute o name apos) (e :: es) [] cpos) (tBM K T r to t) := by
  subst hk
  exact pe_bm pa slot hty hm ho ha hbase hfew hline hs hplain
end
/-- the deck at d, its great numbers at L -/
def Dk (d L : Addr) (H : Hp) : Prop := ∃ (cs : List Int) (st c : Int), H d = some (.lst [.ref L, .int st, .int c]) ∧ H L = some (.lst (cs.map V.int)) ∧ cs.length ≤ 63
/-- all but the deck stands -/
def Fr (d L : Addr) (H H' : Hp) : Prop := ∀ b o, b ≠ d → b ≠ L → H b = some o → H' b = some o
section
variable {d L : Addr} {H H1 H2 : Hp}
theorem Dk.ne (h : Dk d L H) : d ≠ L := fun z => by
  obtain ⟨cs, st, c, h1, h2, _⟩ := h
  rw [z, h2] at h1
  cases cs with
  | nil => cases h1
  | cons x r => cases h1
theorem Dk.newd (h : Dk d L H) {p : Addr} (n : H p = none) : p ≠ d := fun z => by
  obtain ⟨cs, st, c, h1, h2, _⟩ := h
  rw [z, h1] at n
  cases n
theorem Dk.newL (h : Dk d L H) {p : Addr} (n : H p = none) : p ≠ L := fun z => by
  obtain ⟨cs, st, c, h1, h2, _⟩ := h
  rw [z, h2] at n
  cases n
theorem Dk.same (h : Dk d L H) (s : Same H H1) : Dk d L H1 := by
  obtain ⟨cs, st, c, h1, h2, h3⟩ := h
  exact ⟨cs, st, c, s _ _ h1, s _ _ h2, h3⟩
theorem Dk.upd (h : Dk d L H) {p : Addr} (h1 : p ≠ d) (h2 : p ≠ L) (o : HO) : Dk d L (upd H p o) := by
  obtain ⟨cs, st, c, e1, e2, h3⟩ := h
  exact ⟨cs, st, c, by rw [upd_ne (Ne.symm h1)]; exact e1, by rw [upd_ne (Ne.symm h2)]; exact e2, h3⟩
theorem Fr.refl : Fr d L H H := fun _ _ _ _ e => e
theorem _root_.L2.Same.fr (s : Same H H1) : Fr d L H H1 := fun b o _ _ e => s b o e
theorem Fr.trans (a : Fr d L H H1) (b : Fr d L H1 H2) : Fr d L H H2 := fun p o h1 h2 e => b p o h1 h2 (a p o h1 h2 e)
theorem Fr.upd (a : Fr d L H H1) {p : Addr} (n : H p = none) (o : HO) : Fr d L H (upd H1 p o) := fun b u h1 h2 e => by
  rw [upd_ne (fun z => by rw [z, n] at e; cases e)]
  exact a b u h1 h2 e
theorem Fr.updd (a : Fr d L H H1) (o : HO) : Fr d L H (L2.upd H1 d o) := fun b u h1 h2 e => by
  rw [upd_ne h1]
  exact a b u h1 h2 e
theorem Fr.updL (a : Fr d L H H1) (o : HO) : Fr d L H (L2.upd H1 L o) := fun b u h1 h2 e => by
  rw [upd_ne h2]
  exact a b u h1 h2 e
theorem Fr.T (a : Fr d L H H1) (h : Dk d L H) : SameT H H1 := fun b xs e => by
  obtain ⟨cs, st, c, h1, h2, _⟩ := h
  exact a b _ (fun z => by rw [z, h1] at e; cases e) (fun z => by rw [z, h2] at e; cases e) e
theorem Fr.free (a : Fr d L H H1) {p : Addr} (n : H1 p = none) (h1 : p ≠ d) (h2 : p ≠ L) : H p = none := by
  cases e : H p with
  | none => rfl
  | some o => have := a p o h1 h2 e; rw [n] at this; cases this
end
def spDraw : Sp := fun vs H Q _ => ∃ (d L : Addr) (many : Int), vs = [.ref d, .int many] ∧ Dk d L H ∧ 1 ≤ many ∧ many < 1073741824 ∧ ∀ H' r, Fr d L H H' → Dk d L H' → 0 ≤ r → r < many → Q (.int r) H'
def spPick : Sp := fun vs H Q _ => ∃ (d L a : Addr) (xs : List V), vs = [.ref d, .ref a] ∧ Dk d L H ∧ H a = some (.lst xs) ∧ a ≠ d ∧ a ≠ L ∧ 1 ≤ xs.length ∧ xs.length ≤ 1000 ∧ ∀ (H' : Hp) (i : Nat) (x : V), Fr d L H H' → Dk d L H' → xs[i]? = some x → Q x H'
def spButtons : Sp := fun vs H Q _ => ∃ (d L : Addr) (k m : Nat), vs = [.ref d, .int (k : Nat), .int (m : Nat)] ∧ Dk d L H ∧ k ≤ m ∧ m ≤ 1000 ∧
  ∀ H' D (bs : List Int), Fr d L H H' → Dk d L H' → H D = none → D ≠ d → D ≠ L → H' D = some (.lst (bs.map V.int)) → bs.length = k → bs.Nodup → Q (.ref D) H'
def spDeck : Sp := fun vs H Q _ => ∃ (a : Addr) (ns : List Int), vs = [.ref a] ∧ (∃ K : PySem.W.Frag, SqL K H a (ns.map V.int)) ∧ ∀ H' d L, Dk d L H' → Q (.ref d) H'
theorem ixN_zero {n : Nat} : ixN (n + 1) 0 = some 0 := by
  unfold ixN
  simp
theorem seqIndex_zero {n : Nat} : seqIndex? 0 (n + 1) = some 0 := by
  unfold seqIndex?
  simp
theorem mod_in (x : Int) {m : Int} (h : 1 ≤ m) : 0 ≤ x % m ∧ x % m < m := ⟨Int.emod_nonneg _ (by omega), Int.emod_lt_of_pos _ (by omega)⟩
section
variable {mg : Str → Option Value} {K : PySem.W.Frag} {P : Program} {w : World} {base : Heap}
theorem pr_draw (T : Txt K mg) : Pr P w K mg base "_law_draw" ["_law_deck_here", "_law_many"] 1 spDraw := by
  refine T.l_draw.pr sc_l_draw (fun _ _ _ _ _ _ us hl => match us, hl with | [_, _], _ => rfl) (fun vs H Q E h => ?_) (fun cdv A outer s H vs Q E hr h => ?_)
  · obtain ⟨d, L, m, rfl, _⟩ := h
    rfl
  · obtain ⟨d, L, m, rfl, hD, h1, h2, q⟩ := h
    refine ⟨_, (pss_cons (ps_if (pt_cmpR (op_neE hr.units (K := K)) (pe_ix (ix_listK (K := K)) (pv 0) pe_int (fun _ _ => rfl)) (pe_lst pa_nil) (nomark _)) (pss_cons (ps_set (i := 2) sc_l_draw.nd rfl (Or.inl rfl) (pe_ix (ix_listK (K := K)) (pe_ix (ix_listK (K := K)) (pv 0) pe_int (fun _ _ => rfl)) pe_int (fun _ _ => rfl)))
 (pss_cons (ps_asg (pe_op op_fdiv (pv 2) (pv 1)) (pg_sub (pe_ix (ix_listK (K := K)) (pv 0) pe_int (fun _ _ => rfl)) pe_int set_list))
 (pss_cons (ps_if (pt_cmpR op_lt (pv 2) (pv 1) (nomark _)) (pss_one (ps_expr (pe_bmK (K := K) PySem.F.plainAttrs_list PySem.F.slot_list_pop PySem.F.type_list_pop mt_popAt (pe_ix (ix_listK (K := K)) (pv 0) pe_int (fun _ _ => rfl)) (pa_cons pe_int pa_nil)))) pss_nil)
 (pss_one (ps_ret (pe_op op_mod (pe_callTy call_int1 (by rfl) T.m_int b_int (pa_cons (pv 2) pa_nil)) (pv 1))))))) pss_nil)
 (pss_cons (ps_asg (pe_op op_add (pe_ix (ix_listK (K := K)) (pv 0) pe_int (fun _ _ => rfl)) pe_int) (pg_sub (pv 0) pe_int set_list))
 (pss_cons (ps_set (i := 3) sc_l_draw.nd rfl (Or.inl rfl) (pe_op op_mod (pe_callTy call_int1 (by rfl) T.m_int b_int (pa_cons (pe_op op_add (pe_ix (ix_listK (K := K)) (pv 0) pe_int (fun _ _ => rfl)) (pe_op op_mul pe_int (pe_ix (ix_listK (K := K)) (pv 0) pe_int (fun _ _ => rfl)))) pa_nil)) pe_int))
 (pss_cons (ps_set (i := 3) sc_l_draw.nd rfl (Or.inl rfl) (pe_op op_mod (pe_callTy call_int1 (by rfl) T.m_int b_int (pa_cons (pe_op op_add (pe_op op_add (pe_op op_mul (pv 3) (pv 3)) (pe_op op_mul pe_int (pe_ix (ix_listK (K := K)) (pv 0) pe_int (fun _ _ => rfl)))) pe_int) pa_nil)) pe_int))
 (pss_cons (ps_set (i := 3) sc_l_draw.nd rfl (Or.inl rfl) (pe_op op_mod (pe_callTy call_int1 (by rfl) T.m_int b_int (pa_cons (pe_op op_add (pe_op op_mul (pv 3) (pv 3)) (pe_ix (ix_listK (K := K)) (pv 0) pe_int (fun _ _ => rfl))) pa_nil)) pe_int))
 (pss_one (ps_ret (pe_op op_mod (pe_callTy call_int1 (by rfl) T.m_int b_int (pa_cons (pe_op op_fdiv (pv 3) pe_int) pa_nil)) (pv 1))))))))), ?_⟩
    have hne := hD.ne
    obtain ⟨cs, st, c, e1, e2, h63⟩ := id hD
    refine ⟨_, rfl, d, _, 0, .ref L, rfl, rfl, SqL.of e1, rfl, Nat.zero_le _, fun z nz => ?_⟩
    have m1 := same_upd nz (.lst [])
    have hD1 := hD.same m1
    have e11 := m1 _ _ e1
    have e21 := m1 _ _ e2
    refine ⟨L, z, _, rfl, rfl, SqL.of e21, SqL.of upd_same, DatL.ints cs, _, rfl, ?_⟩
    cases cs with
    | cons x cs =>
      refine iteT ?_
      refine ⟨_, rfl, d, _, 0, .ref L, rfl, rfl, SqL.of e11, rfl, L, _, 0, .int x, rfl, rfl, SqL.of e21, atI_nat (j := 0) rfl, ?_⟩
      refine ⟨_, rfl, _, rfl, _, _, rfl, rfl, ⟨by omega, h2⟩, _, rfl, d, _, 0, .ref L, rfl, rfl, SqL.of e11, rfl, L, _, 0, 0, rfl, rfl, e21, ixN_zero, ?_⟩
      have e12 : upd (upd H z (.lst [])) L (.lst (((x :: cs).map V.int).set 0 (.int (x / m)))) d = some (.lst [.ref L, .int st, .int c]) := by
        rw [upd_ne hne]
        exact e11
      have e22 : upd (upd H z (.lst [])) L (.lst (((x :: cs).map V.int).set 0 (.int (x / m)))) L = some (.lst ((x / m :: cs).map V.int)) := upd_same
      have f2 : Fr d L H (upd (upd H z (.lst [])) L (.lst (((x :: cs).map V.int).set 0 (.int (x / m))))) := (m1.fr).updL _
      refine ⟨_, rfl, _, rfl, _, _, rfl, rfl, _, rfl, ite2 (fun hlt => ?_) fun hge => ?_⟩
      · refine ⟨_, rfl, d, _, 0, .ref L, rfl, rfl, SqL.of e12, rfl, .inl ⟨rfl, _, SqL.of e22⟩, L, _, 0, 0, _, rfl, rfl, e22, by decide, by decide, seqIndex_zero, rfl, ?_⟩
        refine ⟨_, rfl, .inl ⟨_, rfl, _, rfl, _, _, rfl, rfl, by omega, ?_⟩⟩
        refine q _ _ (f2.updL _) ⟨cs, st, c, ?_, ?_, ?_⟩ (mod_in x h1).1 (mod_in x h1).2
        · rw [upd_ne hne]
          exact e12
        · rw [upd_same]
          rfl
        · simp at h63
          omega
      · refine ⟨_, rfl, .inl ⟨_, rfl, _, rfl, _, _, rfl, rfl, by omega, ?_⟩⟩
        exact q _ _ f2 ⟨x / m :: cs, st, c, e12, e22, by simpa using h63⟩ (mod_in x h1).1 (mod_in x h1).2
    | nil =>
      refine iteF ?_
      refine ⟨_, rfl, d, _, 2, .int c, rfl, rfl, SqL.of e11, rfl, _, _, rfl, rfl, _, rfl, d, _, 2, 2, rfl, rfl, e11, rfl, ?_⟩
      have eN : upd (upd H z (.lst [])) d (.lst ([V.ref L, .int st, .int c].set 2 (.int (c + 1)))) d = some (.lst [.ref L, .int st, .int (c + 1)]) := upd_same
      have fN : Fr d L H (upd (upd H z (.lst [])) d (.lst ([V.ref L, .int st, .int c].set 2 (.int (c + 1))))) := (m1.fr).updd _
      have dN : Dk d L (upd (upd H z (.lst [])) d (.lst ([V.ref L, .int st, .int c].set 2 (.int (c + 1))))) := ⟨[], st, c + 1, eN, by rw [upd_ne (Ne.symm hne)]; exact e21, by simp⟩
      refine ⟨_, rfl, d, _, 1, .int st, rfl, rfl, SqL.of eN, rfl, _, rfl, d, _, 2, .int (c + 1), rfl, rfl, SqL.of eN, rfl, _, _, rfl, rfl, .inl ⟨by decide, by decide⟩, _, _, rfl, rfl, .inl ⟨_, rfl, _, _, rfl, rfl, (by decide : (0 : Int) < 4294967291), ?_⟩⟩
      have hm1 := mod_in (st + 2654435761 * (c + 1)) (m := 4294967291) (by decide)
      generalize (st + 2654435761 * (c + 1)) % 4294967291 = g1 at hm1 ⊢
      refine ⟨_, rfl, _, rfl, _, _, rfl, rfl, .inl ⟨by omega, by omega⟩, _, rfl, d, _, 2, .int (c + 1), rfl, rfl, SqL.of eN, rfl, _, _, rfl, rfl, .inl ⟨by decide, by decide⟩, _, _, rfl, rfl, _, _, rfl, rfl, .inl ⟨_, rfl, _, _, rfl, rfl, (by decide : (0 : Int) < 4294967279), ?_⟩⟩
      have hm2 := mod_in (g1 * g1 + 40503 * (c + 1) + 11) (m := 4294967279) (by decide)
      generalize (g1 * g1 + 40503 * (c + 1) + 11) % 4294967279 = g2 at hm2 ⊢
      refine ⟨_, rfl, _, rfl, _, _, rfl, rfl, .inl ⟨by omega, by omega⟩, _, rfl, d, _, 1, .int st, rfl, rfl, SqL.of eN, rfl, _, _, rfl, rfl, .inl ⟨_, rfl, _, _, rfl, rfl, (by decide : (0 : Int) < 4294967231), ?_⟩⟩
      refine ⟨_, rfl, _, _, rfl, rfl, ⟨by decide, by decide⟩, .inl ⟨_, rfl, _, rfl, _, _, rfl, rfl, by omega, ?_⟩⟩
      exact q _ _ fN dN (mod_in _ h1).1 (mod_in _ h1).2
theorem pr_pick (T : Txt K mg) : Pr P w K mg base "_law_pick" ["_law_deck_here", "_law_items"] 2 spPick := by
  have G_l_draw := pr_draw (P := P) (w := w) (base := base) T
  refine T.l_pick.pr sc_l_pick (fun _ _ _ _ _ _ us hl => match us, hl with | [_, _], _ => rfl) (fun vs H Q E h => ?_) (fun cdv A outer s H vs Q E hr h => ?_)
  · obtain ⟨d, L, a, xs, rfl, _⟩ := h
    rfl
  · obtain ⟨d, L, a, xs, rfl, hD, ea, n1, n2, h1, h2, q⟩ := h
    refine ⟨_, (pss_one (ps_ret (pe_ix (ix_listK (K := K)) (pv 1) (pe_pr G_l_draw (hr.mono (by omega)) (pa_cons (pv 0) (pa_cons (pe_callB (call_lenK (K := K)) (by rfl) T.m_len b_len (pa_cons (pv 1) pa_nil)) pa_nil))) (fun _ _ => rfl)))), ?_⟩
    refine ⟨_, rfl, _, rfl, _, rfl, a, xs, rfl, .inl (SqL.of ea), d, L, (xs.length : Int), rfl, hD, by omega, by omega, fun H1 r f1 d1 r0 r1 => ?_⟩
    have hi : r.toNat < xs.length := by omega
    have hr : ((r.toNat : Nat) : Int) = r := by omega
    have hx : xs[r.toNat]? = some xs[r.toNat] := List.getElem?_eq_getElem hi
    refine ⟨a, xs, r, _, rfl, rfl, SqL.of (f1 _ _ n1 n2 ea), ?_, q _ _ _ f1 d1 hx⟩
    have := atI_nat hx
    rw [hr] at this
    exact this
end
end K94

/-! K94D9: what the law draws: the deck itself, buttons, events, scales. -/
namespace K94
open PySem L2 PySem.Spec PyProof.Rows
def spDeckK (K : PySem.W.Frag) : Sp := fun vs H Q _ => ∃ (a : Addr) (ns : List Int), vs = [.ref a] ∧ SqL K H a (ns.map V.int) ∧ ∀ H' d L, Dk d L H' → Q (.ref d) H'
def spEvents : Sp := fun vs H Q _ => ∃ (d L B : Addr) (bs : List Int) (n : Nat), vs = [.ref d, .ref B, .int (n : Nat)] ∧ Dk d L H ∧ H B = some (.lst (bs.map V.int)) ∧ B ≠ d ∧ B ≠ L ∧ 1 ≤ bs.length ∧ bs.length ≤ 1000 ∧ n ≤ 1000 ∧
  ∀ H' es u, Fr d L H H' → Dk d L H' → EvsAt H' es u → es.length = n → (∀ e ∈ es, e.2 ∈ bs) → Q u H'
def spScale : Sp := fun vs H Q _ => ∃ (d L B : Addr) (bs : List Int) (m : Int), vs = [.ref d, .ref B, .int m] ∧ Dk d L H ∧ H B = some (.lst (bs.map V.int)) ∧ B ≠ d ∧ B ≠ L ∧ 1 ≤ bs.length ∧ bs.length ≤ 1000 ∧ 0 ≤ m ∧ m ≤ 1000 ∧
  ∀ H' rows bound u, Fr d L H H' → Dk d L H' → ScAt H' rows bound u → (rows.map Prod.fst).Perm bs → 1 ≤ bound → Q u H'
theorem rgV_range (m : Nat) : rgV 0 (m : Int) = ((List.range m).map fun i => ((i : Nat) : Int)).map V.int := by
  unfold rgV
  rw [List.map_map]
  have e : ((m : Int) - 0).toNat = m := by omega
  rw [e]
  apply List.map_congr_left
  intro i _
  show V.int (0 + (i : Int)) = V.int (i : Int)
  rw [Int.zero_add]
theorem seqIndex_nat {i n : Nat} (h : i < n) : seqIndex? (i : Int) n = some i := by
  unfold seqIndex?
  have h1 : ¬ ((i : Int) < 0) := by omega
  simp only [h1, if_false]
  have h2 : (decide ((0 : Int) ≤ (i : Int)) && decide ((i : Int) < (n : Int))) = true := by
    rw [Bool.and_eq_true, decide_eq_true_iff, decide_eq_true_iff]
    omega
  rw [if_pos h2, Int.toNat_natCast]
theorem perm_erase : ∀ {es : List Int} {i : Nat} {x : Int}, es[i]? = some x → es.Perm (x :: es.eraseIdx i)
  | [], _, _, h => by simp at h
  | e :: es, 0, x, h => by
    simp at h
    subst h
    exact .refl _
  | e :: es, i + 1, x, h => by
    have := perm_erase (es := es) (i := i) (x := x) (by simpa using h)
    exact (this.cons e).trans (.swap x e _)
theorem erase_map : ∀ (es : List Int) (i : Nat), (es.map V.int).eraseIdx i = (es.eraseIdx i).map V.int
  | [], _ => by simp
  | e :: es, 0 => by simp
  | e :: es, i + 1 => by simp [erase_map es i]
section
variable {mg : Str → Option Value} {K : PySem.W.Frag} {P : Program} {w : World} {base : Heap}
theorem pr_deck (T : Txt K mg) : Pr P w K mg base "_law_deck" ["_law_script"] 1 (spDeckK K) := by
  refine T.l_deck.pr sc_l_deck (fun _ _ _ _ _ _ us hl => match us, hl with | [_], _ => rfl) (fun vs H Q E h => ?_) (fun cdv A outer s H vs Q E hr h => ?_)
  · obtain ⟨a, ns, rfl, _⟩ := h
    rfl
  · obtain ⟨a, ns, rfl, hS, q⟩ := h
    refine ⟨_, (pss_cons (ps_par (i := 2) (j := 3) rfl sc_l_deck.nd rfl rfl (by decide) rfl rfl (pa_cons (pe_lc (own := [("_law_cell", 1)]) (g := gName 1) (by rfl) sc_l_deck.nd (pi_listK (K := K) (pe_slice sl_list (pv 0) po_none (po_some pe_int))) (blkOk_by (own := [("_law_cell", 1)]) (N := ["_law_script", "_law_cell", "_law_cells", "_law_stirred"]) (sc := defScope s_l_deck) (by decide +kernel)) (fun _ _ _ _ _ => (pg_name (i := 1) sc_l_deck.nd rfl (Or.inl rfl))) (fun _ _ _ _ _ => pts_nil) (fun _ _ _ _ _ => (pe_op op_add (pe_op op_mul pe_int (pe_callB call_abs (by rfl) T.m_abs b_abs (pa_cons (pv 1) pa_nil))) (pe_callTy call_int1 (by rfl) T.m_int b_int (pa_cons (pe_cmpR op_lt (pv 1) pe_int (nomark _)) pa_nil))))) (pa_cons (pe_op op_add pe_int (pe_callB (call_lenK (K := K)) (by rfl) T.m_len b_len (pa_cons (pv 0) pa_nil))) pa_nil)) (by rfl))
 (pss_cons (ps_for PassesOwn.never rfl (pi_listK (K := K) (pv 2)) (pg_name (i := 1) sc_l_deck.nd rfl (Or.inl rfl)) (pss_one (ps_set (i := 3) sc_l_deck.nd rfl (Or.inl rfl) (pe_op op_mod (pe_callTy call_int1 (by rfl) T.m_int b_int (pa_cons (pe_op op_add (pe_op op_mul (pv 3) pe_int) (pv 1)) pa_nil)) pe_int))))
 (pss_one (ps_ret (pe_lst (pa_cons (pe_lc (own := [("_law_cell", 1)]) (g := gName 1) (by rfl) sc_l_deck.nd (pi_listK (K := K) (pv 2)) (blkOk_by (own := [("_law_cell", 1)]) (N := ["_law_script", "_law_cell", "_law_cells", "_law_stirred"]) (sc := defScope s_l_deck) (by decide +kernel)) (fun _ _ _ _ _ => (pg_name (i := 1) sc_l_deck.nd rfl (Or.inl rfl))) (fun _ _ _ _ _ => (pts_one (pt_cmpR op_ge (pv 1) (pe_op op_pow pe_int pe_int) (nomark _)))) (fun _ _ _ _ _ => (pv 1))) (pa_cons (pv 3) (pa_cons pe_int pa_nil)))))))), ?_⟩
    refine ⟨_, rfl, 63, rfl, a, _, rfl, hS, fun p np => ?_⟩
    have m1 := same_upd np (.lst (cutV (ns.map V.int) none (some 63)))
    obtain ⟨ms, hms, hml⟩ : ∃ ms : List Int, cutV (ns.map V.int) none (some 63) = ms.map V.int ∧ ms.length ≤ 63 := by
      unfold cutV
      rw [HT.sIx_none, List.drop_zero, ← List.map_take]
      refine ⟨_, rfl, ?_⟩
      rw [List.length_take]
      have : HT.sIx (ns.map V.int).length (ns.map V.int).length (some 63) ≤ 63 := by
        have e : HT.sIx (ns.map V.int).length (ns.map V.int).length (some 63) = min 63 (ns.map V.int).length := HT.sIx_nat (ns.map V.int).length (ns.map V.int).length 63
        rw [e]
        omega
      omega
    rw [hms] at m1 ⊢
    refine ⟨p, rfl, ⟨_, SqL.of upd_same⟩, fun C nC => lc_list (K := K) (a := p) (xs := ms.map V.int) (fun i H1 => Same (upd H p (.lst (ms.map V.int))) H1 ∧ ∃ cs : List Int, H1 C = some (.lst (cs.map V.int)) ∧ cs.length = i)
      ⟨same_upd nC _, [], upd_same, rfl⟩ (fun i H1 _ h => SqL.of (h.1 _ _ upd_same)) (fun i x H1 hx h => ?_) (fun H1 h => ?_)⟩
    · obtain ⟨s1, cs, eC, hc⟩ := h
      have hi := (List.getElem?_eq_some_iff.mp hx).1
      rw [List.length_map] at hi
      obtain ⟨m, _, rfl⟩ : ∃ m, ms[i]? = some m ∧ x = .int m := by
        rw [List.getElem?_map] at hx
        cases e : ms[i]? with
        | none => rw [e] at hx; simp at hx
        | some W => rw [e] at hx; exact ⟨W, rfl, (Option.some.inj hx).symm⟩
      refine ⟨rfl, _, rfl, _, rfl, _, _, rfl, rfl, .inl ⟨by decide, by decide⟩, _, rfl, _, _, rfl, rfl, .inr ⟨_, rfl, _, _, rfl, rfl, _, eC, lt_line (by rw [List.length_map]; omega), s1.upd nC _, ?_⟩⟩
      refine ⟨cs ++ [3 * (if m < 0 then -m else m) + (if decide (m < 0) = true then 1 else 0)], ?_, by rw [List.length_append, hc]; rfl⟩
      rw [upd_same, List.map_append]
      rfl
    · obtain ⟨s1, cs, eC, hc⟩ := h
      rw [List.length_map] at hc
      refine ⟨_, rfl, a, _, rfl, .inl ((m1.trans s1).seq hS), _, _, rfl, rfl, _, _, rfl, ?_⟩
      refine ⟨_, rfl, C, rfl, ⟨_, SqL.of eC⟩, for_list (K := K) (a := C) (xs := cs.map V.int) (fun i σ H2 => H2 = H1 ∧ ∃ y st, σ = [some (.ref a), y, some (.ref C), some (.int st)]) ⟨rfl, none, _, rfl⟩
        (fun i σ H2 _ h => by rw [h.1]; exact SqL.of eC) (fun i x σ H2 hx h => ?_) (fun σ H2 h => ?_)⟩
      · obtain ⟨rfl, y, st, rfl⟩ := h
        obtain ⟨m, _, rfl⟩ : ∃ m, cs[i]? = some m ∧ x = .int m := by
          rw [List.getElem?_map] at hx
          cases e : cs[i]? with
          | none => rw [e] at hx; simp at hx
          | some W => rw [e] at hx; exact ⟨W, rfl, (Option.some.inj hx).symm⟩
        exact ⟨_, rfl, _, _, rfl, rfl, .inr ⟨by decide, by decide⟩, _, rfl, _, _, rfl, rfl, .inl ⟨_, rfl, _, _, rfl, rfl, (by decide : (0 : Int) < 4294967291), rfl, _, _, rfl⟩⟩
      · obtain ⟨rfl, y, st, rfl⟩ := h
        refine ⟨_, rfl, C, rfl, ⟨_, SqL.of eC⟩, fun G nG => lc_list (K := K) (a := C) (xs := cs.map V.int) (fun i H3 => Same H2 H3 ∧ ∃ gs : List Int, H3 G = some (.lst (gs.map V.int)) ∧ gs.length ≤ i)
          ⟨same_upd nG _, [], upd_same, Nat.le_refl _⟩ (fun i H3 _ h => SqL.of (h.1 _ _ eC)) (fun i x H3 hx h => ?_) (fun H3 h => ?_)⟩
        · obtain ⟨s3, gs, eG, hg⟩ := h
          have hi := (List.getElem?_eq_some_iff.mp hx).1
          rw [List.length_map] at hi
          obtain ⟨m, _, rfl⟩ : ∃ m, cs[i]? = some m ∧ x = .int m := by
            rw [List.getElem?_map] at hx
            cases e : cs[i]? with
            | none => rw [e] at hx; simp at hx
            | some W => rw [e] at hx; exact ⟨W, rfl, (Option.some.inj hx).symm⟩
          refine ⟨rfl, _, rfl, _, _, rfl, rfl, ⟨by decide, by decide, by decide⟩, _, _, rfl, rfl, _, rfl, ite2 (fun _ => ?_) fun _ => ?_⟩
          · refine ⟨_, rfl, _, eG, lt_line (by rw [List.length_map]; omega), s3.upd nG _, gs ++ [m], ?_, by rw [List.length_append]; simp; omega⟩
            rw [upd_same, List.map_append]
            rfl
          · exact ⟨s3, gs, eG, by omega⟩
        · obtain ⟨s3, gs, eG, hg⟩ := h
          rw [List.length_map] at hg
          refine ⟨_, rfl, le_line (by simp), fun z nz => ?_⟩
          exact q _ z G ⟨gs, st, 0, upd_same, same_upd nz _ _ _ eG, by omega⟩
theorem pr_buttons (T : Txt K mg) : Pr P w K mg base "_law_buttons" ["_law_deck_here", "_law_many", "_law_most"] 2 spButtons := by
  have G_l_draw := pr_draw (P := P) (w := w) (base := base) T
  refine T.l_buttons.pr sc_l_buttons (fun _ _ _ _ _ _ us hl => match us, hl with | [_, _, _], _ => rfl) (fun vs H Q E h => ?_) (fun cdv A outer s H vs Q E hr h => ?_)
  · obtain ⟨d, L, k, m, rfl, _⟩ := h
    rfl
  · obtain ⟨d, L, k, m, rfl, hD, hkm, hm, q⟩ := h
    refine ⟨_, (pss_cons (ps_set (i := 3) sc_l_buttons.nd rfl (Or.inr rfl) (pe_listRg rfl (by rfl) T.m_list (prg_1 (by rfl) T.m_range (pv 2))))
 (pss_one (ps_ret (pe_lc (own := [("_law_turn", 4)]) (g := gName 4) (by rfl) sc_l_buttons.nd (pi_range1 (by rfl) T.m_range (pa_cons (pv 1) pa_nil)) (blkOk_by (own := [("_law_turn", 4)]) (N := ["_law_deck_here", "_law_many", "_law_most", "_law_every", "_law_turn"]) (sc := defScope s_l_buttons) (by decide +kernel)) (fun _ _ _ _ _ => (pg_name (i := 4) sc_l_buttons.nd rfl (Or.inl rfl))) (fun _ _ _ _ _ => pts_nil) (fun _ _ _ _ _ => (pe_bmK (K := K) PySem.F.plainAttrs_list PySem.F.slot_list_pop PySem.F.type_list_pop mt_popAt (pv 3) (pa_cons (pe_pr G_l_draw (hr.mono (by omega)) (pa_cons (pv 0) (pa_cons (pe_callB (call_lenK (K := K)) (by rfl) T.m_len b_len (pa_cons (pv 3) pa_nil)) pa_nil))) pa_nil))))))), ?_⟩
    refine ⟨_, rfl, _, rfl, .of_le (by omega) (by omega) (by omega) (by omega), fun F nF => ?_⟩
    rw [rgV_range]
    have m1 := same_upd nF (.lst (((List.range m).map fun i => ((i : Nat) : Int)).map V.int))
    have hD1 := hD.same m1
    refine ⟨_, rfl, (k : Int), rfl, by omega, by omega, fun D nD => lc_range (lo := 0) (n := (k : Int).toNat) (fun i H1 => Fr d L H H1 ∧ Dk d L H1 ∧ ∃ es bs : List Int, H1 F = some (.lst (es.map V.int)) ∧ H1 D = some (.lst (bs.map V.int)) ∧ bs.length = i ∧ (bs ++ es).Perm ((List.range m).map fun i => ((i : Nat) : Int)))
      ⟨m1.fr.upd (m1.free nD) _, hD1.upd (hD1.newd nD) (hD1.newL nD) _, _, [], same_upd nD _ _ _ upd_same, upd_same, rfl, .refl _⟩ (fun i H1 hi h => ?_) (fun H1 h => ?_)⟩
    · obtain ⟨f1, d1, es, bs, eF, eD, hb, hp⟩ := h
      have hnF1 := hD.newd nF
      have hnF2 := hD.newL nF
      have hnD1 := hD1.newd nD
      have hnD2 := hD1.newL nD
      have hFD : F ≠ D := fun z => by
        rw [← z, upd_same] at nD
        cases nD
      have hl := hp.length_eq
      rw [List.length_append, List.length_map, List.length_range, hb] at hl
      have hi : i < k := by omega
      refine ⟨rfl, _, rfl, .inl ⟨rfl, _, SqL.of eF⟩, _, rfl, _, rfl, F, _, rfl, .inl (SqL.of eF), d, L, ((es.map V.int).length : Int), rfl, d1, by rw [List.length_map]; omega, by rw [List.length_map]; omega, fun H2 r f2 d2 r0 r1 => ?_⟩
      rw [List.length_map] at r1
      have hri : r.toNat < es.length := by omega
      have hr : r = ((r.toNat : Nat) : Int) := by omega
      have eF2 := f2 _ _ hnF1 hnF2 eF
      have eD2 := f2 _ _ hnD1 hnD2 eD
      have hx : es[r.toNat]? = some es[r.toNat] := List.getElem?_eq_getElem hri
      refine ⟨F, _, r, r.toNat, .int es[r.toNat], rfl, rfl, eF2, by omega, by omega, by rw [List.length_map, hr]; exact seqIndex_nat hri, by rw [List.getElem?_map, hx]; rfl, _, by rw [upd_ne (Ne.symm hFD)]; exact eD2, lt_line (by rw [List.length_map]; omega), ?_⟩
      refine ⟨((f1.trans f2).upd nF _).upd (m1.free nD) _, (d2.upd hnF1 hnF2 _).upd hnD1 hnD2 _, es.eraseIdx r.toNat, bs ++ [es[r.toNat]], ?_, ?_, by rw [List.length_append, hb]; rfl, ?_⟩
      · rw [upd_ne hFD, upd_same]
        rw [erase_map]
      · rw [upd_same, List.map_append]
        rfl
      · refine .trans ?_ hp
        rw [List.append_assoc]
        exact (perm_erase hx).symm.append_left bs
    · obtain ⟨f1, d1, es, bs, eF, eD, hb, hp⟩ := h
      refine q H1 D bs f1 d1 (m1.free nD) (hD1.newd nD) (hD1.newL nD) eD (by omega) ?_
      have nd : ((List.range m).map fun i => ((i : Nat) : Int)).Nodup := by
        refine List.Pairwise.map _ (fun a b h => ?_) List.nodup_range
        exact fun z => h (by omega)
      exact (List.nodup_append.mp (hp.symm.nodup nd)).1
end
end K94

/-! K94D10: events and scales drawn. -/
namespace K94
open PySem L2 PySem.Spec PyProof.Rows
theorem pick3 {i : Nat} {x : V} (h : ([V.str "press", .str "press", .str "let"])[i]? = some x) : ∃ b, x = .str (word b) := by
  match i, h with
  | 0, h => exact ⟨true, (Option.some.inj h).symm⟩
  | 1, h => exact ⟨true, (Option.some.inj h).symm⟩
  | 2, h => exact ⟨false, (Option.some.inj h).symm⟩
theorem sum_bd {m : Int} (h : 0 ≤ m) : ∀ rows : List (Int × Int), (∀ p ∈ rows, 0 ≤ p.2 ∧ p.2 ≤ m) → 0 ≤ (rows.map Prod.snd).sum ∧ (rows.map Prod.snd).sum ≤ m * (rows.length : Int)
  | [], _ => by simp
  | p :: r, hp => by
    have ih := sum_bd h r fun q hq => hp q (List.mem_cons_of_mem _ hq)
    have h1 := hp p List.mem_cons_self
    rw [List.map_cons, List.sum_cons, List.length_cons, Int.natCast_add, Int.mul_add]
    omega
section
variable {mg : Str → Option Value} {K : PySem.W.Frag} {P : Program} {w : World} {base : Heap}
theorem pr_events (T : Txt K mg) : Pr P w K mg base "_law_events" ["_law_deck_here", "_law_buttons_here", "_law_many"] 3 spEvents := by
  have G_l_pick := pr_pick (P := P) (w := w) (base := base) T
  refine T.l_events.pr sc_l_events (fun _ _ _ _ _ _ us hl => match us, hl with | [_, _, _], _ => rfl) (fun vs H Q E h => ?_) (fun cdv A outer s H vs Q E hr h => ?_)
  · obtain ⟨d, L, B, bs, n, rfl, _⟩ := h
    rfl
  · obtain ⟨d, L, B, bs, n, rfl, hD, eB, hB1, hB2, hb1, hb2, hn, q⟩ := h
    refine ⟨_, (pss_cons (ps_set (i := 3) sc_l_events.nd rfl (Or.inl rfl) (pe_lst pa_nil))
 (pss_cons (ps_for PassesOwn.never rfl (pi_range1 (by rfl) T.m_range (pa_cons (pv 2) pa_nil)) (pg_name (i := 4) sc_l_events.nd rfl (Or.inl rfl)) (pss_one (ps_expr (pe_bmK (K := K) PySem.F.plainAttrs_list PySem.F.slot_list_append PySem.F.type_list_append mt_append (pv 3) (pa_cons (pe_tup (pa_cons (pe_pr G_l_pick (hr.mono (by omega)) (pa_cons (pv 0) (pa_cons (pe_lst (pa_cons pe_str (pa_cons pe_str (pa_cons pe_str pa_nil)))) pa_nil))) (pa_cons (pe_pr G_l_pick (hr.mono (by omega)) (pa_cons (pv 0) (pa_cons (pv 1) pa_nil))) pa_nil))) pa_nil)))))
 (pss_one (ps_ret (pe_callTy call_tuple_of (by rfl) T.m_tuple b_tuple (pa_cons (pv 3) pa_nil)))))), ?_⟩
    refine ⟨Nat.zero_le _, fun F nF => ?_⟩
    have m1 := same_upd nF (.lst [])
    have hF1 := hD.newd nF
    have hF2 := hD.newL nF
    refine ⟨_, rfl, (n : Int), rfl, by omega, by omega, for_range (lo := 0) (n := (n : Int).toNat) (fun i σ H1 => Fr d L H H1 ∧ Dk d L H1 ∧ (∃ y, σ = [some (.ref d), some (.ref B), some (.int (n : Nat)), some (.ref F), y]) ∧ ∃ es fs, H1 F = some (.lst fs) ∧ F2 (EvAt H1) es fs ∧ es.length = i ∧ ∀ e ∈ es, e.2 ∈ bs)
      ⟨m1.fr, hD.same m1, ⟨none, rfl⟩, [], [], upd_same, .nil, rfl, fun e he => by cases he⟩ (fun i σ H1 hi h => ?_) (fun σ H1 h => ?_)⟩
    · obtain ⟨f1, d1, ⟨y, rfl⟩, es, fs, eF, hE, hl, hin⟩ := h
      have hel := hE.len
      refine ⟨_, rfl, .inl ⟨rfl, _, SqL.of eF⟩, _, rfl, le_line (by simp), fun z nz => ?_⟩
      have m2 := same_upd nz (.lst [.str "press", .str "press", .str "let"])
      refine ⟨d, L, z, _, rfl, d1.same m2, upd_same, d1.newd nz, d1.newL nz, by simp, by simp, fun H2 i1 x f2 d2 hx => ?_⟩
      obtain ⟨wb, rfl⟩ := pick3 hx
      have f12 := (f1.trans m2.fr).trans f2
      refine ⟨_, rfl, _, rfl, d, L, B, _, rfl, d2, f12 _ _ hB1 hB2 eB, hB1, hB2, by rw [List.length_map]; exact hb1, by rw [List.length_map]; exact hb2, fun H3 i2 x2 f3 d3 hx2 => ?_⟩
      obtain ⟨b, hb, rfl⟩ : ∃ b, bs[i2]? = some b ∧ x2 = .int b := by
        rw [List.getElem?_map] at hx2
        cases e : bs[i2]? with
        | none => rw [e] at hx2; simp at hx2
        | some W => rw [e] at hx2; exact ⟨W, rfl, (Option.some.inj hx2).symm⟩
      refine ⟨le_line (by simp), fun p np => ?_⟩
      have m4 := same_upd np (.tup [.str (word wb), .int b])
      have f13 := ((m2.fr (d := d) (L := L)).trans f2).trans f3
      have eF3 := m4 _ _ (f13 _ _ hF1 hF2 eF)
      refine ⟨F, fs, .ref p, rfl, rfl, eF3, lt_line (by omega), ?_⟩
      have sT : SameT H1 (upd (upd H3 p (.tup [.str (word wb), .int b])) F (.lst (fs ++ [.ref p]))) := ((f13.T d1).trans m4.T).trans (SameT.lst eF3 _)
      refine ⟨((f12.trans f3).trans m4.fr).upd nF _, (d3.same m4).upd hF1 hF2 _, ⟨_, rfl⟩, es ++ [(wb, b)], fs ++ [.ref p], upd_same, ?_, by rw [List.length_append, hl]; rfl, fun e he => ?_⟩
      · exact (evs_mono sT hE).snoc ⟨p, rfl, (SameT.lst eF3 _) _ _ upd_same⟩
      · rcases List.mem_append.mp he with h | h
        · exact hin e h
        · rw [List.mem_singleton.mp h]
          exact List.mem_of_getElem? hb
    · obtain ⟨f1, d1, ⟨y, rfl⟩, es, fs, eF, hE, hl, hin⟩ := h
      refine ⟨_, rfl, F, fs, rfl, .inl ⟨SqL.of eF, fun r nr => ?_⟩⟩
      have m2 := same_upd nr (.tup fs)
      exact q _ es _ (f1.trans m2.fr) (d1.same m2) ⟨r, fs, rfl, upd_same, evs_mono m2.T hE⟩ (by omega) hin
theorem pr_lscale (T : Txt K mg) : Pr P w K mg base "_law_scale" ["_law_deck_here", "_law_buttons_here", "_law_most"] 2 spScale := by
  have G_l_draw := pr_draw (P := P) (w := w) (base := base) T
  refine T.l_scale.pr sc_l_scale (fun _ _ _ _ _ _ us hl => match us, hl with | [_, _, _], _ => rfl) (fun vs H Q E h => ?_) (fun cdv A outer s H vs Q E hr h => ?_)
  · obtain ⟨d, L, B, bs, m, rfl, _⟩ := h
    rfl
  · obtain ⟨d, L, B, bs, m, rfl, hD, eB, hB1, hB2, hb1, hb2, hm0, hm1, q⟩ := h
    refine ⟨_, (pss_cons (ps_setLc (i := 3) (own := [("_law_button", 5)]) (g := gName 5) rfl sc_l_scale.nd rfl rfl (sw_true rfl rfl rfl (by decide +kernel)) (pi_listK (K := K) (pe_callB cr_sortedI (by rfl) T.m_sorted b_sorted (pa_cons (pv 1) pa_nil))) (blkOk_by (own := [("_law_button", 5)]) (N := ["_law_deck_here", "_law_buttons_here", "_law_most", "_law_rows", "_law_whole", "_law_button", "_law_weight"]) (sc := defScope s_l_scale) (by decide +kernel)) (fun _ _ _ _ _ => (pg_name (i := 5) sc_l_scale.nd rfl (Or.inl rfl))) (fun _ _ _ _ _ => pts_nil) (fun _ _ _ _ _ => (pe_tup (pa_cons (pv 5) (pa_cons (pe_pr G_l_draw (hr.mono (by omega)) (pa_cons (pv 0) (pa_cons (pe_op op_add (pv 2) pe_int) pa_nil))) pa_nil)))))
 (pss_cons (ps_set (i := 4) sc_l_scale.nd rfl (Or.inl rfl) (pe_callB (cr_sum rfl) (by rfl) T.m_sum b_sum (pa_cons (pe_lc (own := [("_law_button", 5), ("_law_weight", 6)]) (g := gTup K 2 (gCons (gName 5) (gCons (gName 6) gNil))) (by rfl) sc_l_scale.nd (pi_listK (K := K) (pv 3)) (blkOk_by (own := [("_law_button", 5), ("_law_weight", 6)]) (N := ["_law_deck_here", "_law_buttons_here", "_law_most", "_law_rows", "_law_whole", "_law_button", "_law_weight"]) (sc := defScope s_l_scale) (by decide +kernel)) (fun _ _ _ _ _ => (pg_tupK (K := K) rfl (pgs_cons (pg_name (i := 5) sc_l_scale.nd rfl (Or.inl rfl)) (pgs_cons (pg_name (i := 6) sc_l_scale.nd rfl (Or.inl rfl)) pgs_nil)))) (fun _ _ _ _ _ => pts_nil) (fun _ _ _ _ _ => (pv 6))) pa_nil)))
 (pss_cons (ps_if (pt_cmpR op_eq (pv 4) pe_int (nomark _)) (pss_one (ps_asg (pe_tup (pa_cons (pe_tup (pa_cons (pe_ix (ix_tupK (K := K)) (pe_ix (ix_listK (K := K)) (pv 3) pe_int (fun _ _ => rfl)) pe_int (fun _ _ => rfl)) (pa_cons pe_int pa_nil))) (pa_cons pe_int pa_nil))) (pg_tupK (K := K) rfl (pgs_cons (pg_sub (pv 3) pe_int set_list) (pgs_cons (pg_name (i := 4) sc_l_scale.nd rfl (Or.inl rfl)) pgs_nil))))) pss_nil)
 (pss_one (ps_ret (pe_tup (pa_cons (pe_callTy call_tuple_of (by rfl) T.m_tuple b_tuple (pa_cons (pv 3) pa_nil)) (pa_cons (pe_op op_add pe_int (pe_pr G_l_draw (hr.mono (by omega)) (pa_cons (pv 0) (pa_cons (pv 4) pa_nil)))) pa_nil)))))))), ?_⟩
    refine ⟨_, rfl, B, bs, rfl, SqL.of eB, fun so S hso _ nS => ?_⟩
    have m1 := same_upd nS (.lst (so.map V.int))
    have hD1 := hD.same m1
    have hsl := hso.length_eq
    refine ⟨S, rfl, ⟨_, SqL.of upd_same⟩, fun D nD => lc_list (K := K) (a := S) (xs := so.map V.int) (fun i H1 => Fr d L (upd H S (.lst (so.map V.int))) H1 ∧ Dk d L H1 ∧ ∃ rows acc, H1 D = some (.lst acc) ∧ F2 (RowAt H1) rows acc ∧ rows.map Prod.fst = so.take i ∧ ∀ p ∈ rows, 0 ≤ p.2 ∧ p.2 ≤ m)
      ⟨(same_upd nD _).fr, hD1.upd (hD1.newd nD) (hD1.newL nD) _, [], [], upd_same, .nil, rfl, fun p hp => by cases hp⟩ (fun i H1 _ h => SqL.of (h.1 _ _ (hD.newd nS) (hD.newL nS) upd_same)) (fun i x H1 hx h => ?_) (fun H1 h => ?_)⟩
    · obtain ⟨f1, d1, rows, acc, eD, hR, hf, hw⟩ := h
      obtain ⟨b, hb, rfl⟩ : ∃ b, so[i]? = some b ∧ x = .int b := by
        rw [List.getElem?_map] at hx
        cases e : so[i]? with
        | none => rw [e] at hx; simp at hx
        | some W => rw [e] at hx; exact ⟨W, rfl, (Option.some.inj hx).symm⟩
      have hi := (List.getElem?_eq_some_iff.mp hb).1
      have hrl := congrArg List.length hf
      rw [List.length_map, List.length_take, hR.len] at hrl
      have hD1' := hD1.newd nD
      have hD2' := hD1.newL nD
      refine ⟨rfl, _, rfl, _, rfl, _, rfl, _, _, rfl, rfl, d, L, m + 1, rfl, d1, by omega, by omega, fun H2 r f2 d2 r0 r1 => ?_⟩
      refine ⟨le_line (by simp), fun p np => ?_⟩
      have m3 := same_upd np (.tup [.int b, .int r])
      have eD3 := m3 _ _ (f2 _ _ hD1' hD2' eD)
      have sT : SameT H1 (upd (upd H2 p (.tup [.int b, .int r])) D (.lst (acc ++ [.ref p]))) := ((f2.T d1).trans m3.T).trans (SameT.lst eD3 _)
      refine ⟨acc, eD3, lt_line (by omega), ((f1.trans f2).trans m3.fr).upd nD _, (d2.same m3).upd hD1' hD2' _, rows ++ [(b, r)], acc ++ [.ref p], upd_same, ?_, ?_, fun e he => ?_⟩
      · exact (rows_mono sT hR).snoc ⟨p, rfl, (SameT.lst eD3 _) _ _ upd_same⟩
      · rw [List.map_append, hf, List.take_add_one, hb]
        rfl
      · rcases List.mem_append.mp he with h | h
        · exact hw e h
        · rw [List.mem_singleton.mp h]
          exact ⟨r0, by show r ≤ m; omega⟩
    · obtain ⟨f1, d1, rows, acc, eD, hR, hf, hw⟩ := h
      rw [List.length_map, List.take_length] at hf
      have f01 : Fr d L H H1 := m1.fr.trans f1
      have hrl := congrArg List.length hf
      rw [List.length_map] at hrl
      have hal := hR.len
      have hDd := hD1.newd nD
      have hDL := hD1.newL nD
      have nDH : H D = none := m1.free nD
      refine ⟨_, rfl, D, rfl, ⟨_, SqL.of eD⟩, fun G nG => lc_list (K := K) (a := D) (xs := acc) (fun i H2 => Same H1 H2 ∧ H2 G = some (.lst (((rows.take i).map Prod.snd).map V.int))) ⟨same_upd nG _, upd_same⟩ (fun i H2 _ h => SqL.of (h.1 _ _ eD)) (fun i x H2 hx h => ?_) (fun H2 h => ?_)⟩
      · obtain ⟨s2, eG⟩ := h
        obtain ⟨p, hp, c, rfl, ec⟩ := hR.get hx
        have hi : i < rows.length := (List.getElem?_eq_some_iff.mp hp).1
        refine ⟨c, _, rfl, SqT.of (s2 _ _ ec), rfl, _, _, rfl, _, _, rfl, rfl, rfl, _, rfl, _, eG, lt_line (by rw [List.length_map, List.length_map, List.length_take]; omega), s2.upd nG _, ?_⟩
        rw [upd_same, List.take_add_one, hp, List.map_append, List.map_append]
        rfl
      · obtain ⟨s2, eG⟩ := h
        rw [← hal, List.take_length] at eG
        have hsum := sum_bd hm0 rows hw
        have hmul : m * (rows.length : Int) ≤ 1000 * 1000 := Int.mul_le_mul hm1 (by omega) (by omega) (by omega)
        refine ⟨G, _, rfl, SqL.of eG, ?_⟩
        have d2 := d1.same s2
        have f2 := f01.trans (s2.fr)
        have eD2 := s2 _ _ eD
        have hR2 := rows_mono s2.T hR
        -- what is left, for the rows as they stand
        have fin : ∀ (rows' : List (Int × Int)) (acc' : List V) (H3 : Hp) (whole : Int), Fr d L H H3 → Dk d L H3 → H3 D = some (.lst acc') → F2 (RowAt H3) rows' acc' → rows'.map Prod.fst = so → 1 ≤ whole → whole < 1073741824 →
            ∃ p ys, [V.ref D] = [V.ref p] ∧ ((SqL K H3 p ys ∧ ∀ l, H3 l = none → spDraw [.ref d, .int whole] (upd H3 l (.tup ys)) (fun v H4 => ∃ r, v = .int r ∧ ∀ z, H4 z = none → Q (.ref z) (upd H4 z (.tup [.ref l, .int (1 + r)]))) E0) ∨ False) := by
          intro rows' acc' H3 whole f3 d3 e3 hR3 hf3 w1 w2
          refine ⟨D, acc', rfl, .inl ⟨SqL.of e3, fun l nl => ?_⟩⟩
          have m4 := same_upd nl (.tup acc')
          refine ⟨d, L, whole, rfl, d3.same m4, w1, w2, fun H4 r f4 d4 r0 r1 => ⟨r, rfl, fun z nz => ?_⟩⟩
          have m5 := same_upd nz (.tup [.ref l, .int (1 + r)])
          have hl1 := d3.newd nl
          have hl2 := d3.newL nl
          refine q _ rows' (1 + r) _ (((f3.trans m4.fr).trans f4).trans m5.fr) (d4.same m5) ⟨z, l, acc', rfl, upd_same, m5 _ _ (f4 _ _ hl1 hl2 upd_same), rows_mono ((m4.T.trans (f4.T (d3.same m4))).trans m5.T) hR3⟩ (by rw [hf3]; exact hso) (by omega)
        refine ⟨_, rfl, rfl, _, rfl, ?_⟩
        by_cases c : (rows.map Prod.snd).sum = 0
        · rw [c]
          refine iteT ?_
          match rows, acc, hR2, hf, hw, hrl, eD2 with
          | [], _, _, _, _, hrl, _ => simp at hrl; omega
          | (b0, w0) :: rest, _, .cons ⟨c0, rfl, ec0⟩ (bs := accr) hR3, hf, hw, hrl, eD2 =>
            have ec0 : H2 c0 = some (.tup [.int b0, .int w0]) := ec0
            refine ⟨_, rfl, D, _, 0, .ref c0, rfl, rfl, SqL.of eD2, atI_nat (j := 0) rfl, c0, _, 0, .int b0, rfl, rfl, SqT.of ec0, rfl, le_line (by simp), fun p1 n1 => ⟨le_line (by simp), fun p2 n2 => ?_⟩⟩
            have m3 := same_upd n1 (.tup [.int b0, .int 1])
            have m4 := same_upd n2 (.tup [.ref p1, .int 1])
            have eD4 := m4 _ _ (m3 _ _ eD2)
            refine ⟨p2, _, rfl, SqT.of upd_same, rfl, _, _, rfl, _, rfl, D, _, 0, 0, rfl, rfl, eD4, ixN_zero, _, _, rfl, rfl, ?_⟩
            have sT : SameT H2 (upd (upd (upd H2 p1 (.tup [.int b0, .int 1])) p2 (.tup [.ref p1, .int 1])) D (.lst ((V.ref c0 :: accr).set 0 (.ref p1)))) := (m3.T.trans m4.T).trans (SameT.lst eD4 _)
            obtain ⟨p, ys, e1, h1⟩ := fin ((b0, 1) :: rest) (.ref p1 :: accr) _ 1 ((f2.trans (m3.trans m4).fr).upd nDH _) (((d2.same m3).same m4).upd hDd hDL _) upd_same (.cons ⟨p1, rfl, (SameT.lst eD4 _) _ _ (m4 _ _ upd_same)⟩ (rows_mono sT hR3)) (by simpa using hf) (by omega) (by omega)
            rcases h1 with ⟨h1, h2⟩ | h1
            · refine ⟨_, rfl, p, ys, e1, .inl ⟨h1, fun l nl => ?_⟩⟩
              refine ⟨_, rfl, _, rfl, ?_⟩
              obtain ⟨d', L', m', ev, g1, g2, g3, g4⟩ := h2 l nl
              refine ⟨d', L', m', ev, g1, g2, g3, fun H4 r f4 d4 r0 r1 => ⟨_, _, rfl, rfl, le_line (by simp), fun z nz => ?_⟩⟩
              obtain ⟨r', er, g5⟩ := g4 H4 r f4 d4 r0 r1
              cases er
              exact g5 z nz
            · exact h1.elim
        · have e : decide (V.int (rows.map Prod.snd).sum = V.int 0) = false := decide_eq_false fun z => c (V.int.inj z)
          rw [e]
          refine iteF ?_
          obtain ⟨p, ys, e1, h1⟩ := fin rows acc H2 (rows.map Prod.snd).sum f2 d2 eD2 hR2 hf (by omega) (by omega)
          rcases h1 with ⟨h1, h2⟩ | h1
          · refine ⟨_, rfl, p, ys, e1, .inl ⟨h1, fun l nl => ?_⟩⟩
            refine ⟨_, rfl, _, rfl, ?_⟩
            obtain ⟨d', L', m', ev, g1, g2, g3, g4⟩ := h2 l nl
            refine ⟨d', L', m', ev, g1, g2, g3, fun H4 r f4 d4 r0 r1 => ⟨_, _, rfl, rfl, le_line (by simp), fun z nz => ?_⟩⟩
            obtain ⟨r', er, g5⟩ := g4 H4 r f4 d4 r0 r1
            cases er
            exact g5 z nz
          · exact h1.elim
end
end K94

/-! K94D11: trees and nests drawn. -/
namespace K94
open PySem L2 PySem.Spec PyProof.Rows
theorem cutV_take {xs : List V} {k : Nat} (h : k ≤ xs.length) : cutV xs none (some (k : Int)) = xs.take k := by
  unfold cutV
  rw [HT.sIx_none, HT.sIx_nat, List.drop_zero, Nat.sub_zero, Nat.min_eq_left h]
theorem cutV_drop {xs : List V} {k : Nat} (h : k ≤ xs.length) : cutV xs (some (k : Int)) none = xs.drop k := by
  unfold cutV
  rw [HT.sIx_none, HT.sIx_nat, Nat.min_eq_left h, List.take_of_length_le (by rw [List.length_drop]; omega)]
theorem btn_pat {H : Hp} : ∀ ns : List Int, PAt H (ns.map Tree.btn) (ns.map V.int)
  | [] => .nil
  | n :: r => .cons rfl (btn_pat r)
theorem btn_facts : ∀ ns : List Int, OkL (ns.map Tree.btn) ∧ NestL (ns.map Tree.btn) ∧ ntr (ns.map Tree.btn) = 0 ∧ depL (ns.map Tree.btn) = 0 ∧ btnsL (ns.map Tree.btn) = ns
  | [] => ⟨trivial, trivial, rfl, rfl, rfl⟩
  | n :: r => by
    obtain ⟨h1, h2, h3, h4, h5⟩ := btn_facts r
    refine ⟨⟨trivial, h1⟩, ⟨trivial, h2⟩, ?_, ?_, ?_⟩
    · simp [ntr, isTrip, h3]
    · simp [depL, dep, h4]
    · simp [btnsL, btns, h5]
theorem depL_app (ps qs : List Tree) : depL (ps ++ qs) = max (depL ps) (depL qs) := by
  induction ps with
  | nil => simp [depL]
  | cons p r ih =>
    simp only [List.cons_append, depL, ih]
    omega
theorem okL_app {ps qs : List Tree} (h : OkL ps) (g : OkL qs) : OkL (ps ++ qs) := by
  rw [okL_iff] at *
  intro p hp
  rcases List.mem_append.mp hp with x | x
  · exact h p x
  · exact g p x
theorem nestL_app {ps qs : List Tree} (h : NestL ps) (g : NestL qs) : NestL (ps ++ qs) := by
  rw [nestL_iff] at *
  intro p hp
  rcases List.mem_append.mp hp with x | x
  · exact h p x
  · exact g p x
def spTree (D : Nat) : Sp := fun vs H Q _ => ∃ (d L B : Addr) (bs : List Int) (deep : Nat), vs = [.ref d, .ref B, .int (deep : Nat)] ∧ deep < D ∧ Dk d L H ∧ H B = some (.lst (bs.map V.int)) ∧ B ≠ d ∧ B ≠ L ∧ 1 ≤ bs.length ∧ bs.length ≤ 1000 ∧ (deep = 0 → bs.length = 1) ∧
  ∀ H' t u, Fr d L H H' → Dk d L H' → TAt H' t u → btns t = bs → Ok t → dep t ≤ deep → Q u H'
def spNst : Sp := fun vs H Q _ => ∃ (d L B : Addr) (bs : List Int), vs = [.ref d, .ref B] ∧ Dk d L H ∧ H B = some (.lst (bs.map V.int)) ∧ B ≠ d ∧ B ≠ L ∧ 1 ≤ bs.length ∧ bs.length ≤ 1000 ∧
  ∀ H' t u, Fr d L H H' → Dk d L H' → TAt H' t u → Nest t → Ok t → (btns t).Perm bs → dep t ≤ bs.length → Q u H'
section
variable {mg : Str → Option Value} {K : PySem.W.Frag} {P : Program} {w : World} {base : Heap}
theorem pr_ltree (T : Txt K mg) : ∀ D : Nat, Pr P w K mg base "_law_tree" ["_law_deck_here", "_law_buttons_here", "_law_deep"] (D + 1) (spTree D)
  | 0 => T.l_tree.none (fun _ _ _ _ _ _ us hl => match us, hl with | [_, _, _], _ => rfl) fun vs H Q E h => by
    obtain ⟨d, L, B, bs, deep, _, h, _⟩ := h
    exact (Nat.not_lt_zero _ h).elim
  | D + 1 => by
    have G_l_draw := pr_draw (P := P) (w := w) (base := base) T
    have G_l_tree := pr_ltree T D
    refine T.l_tree.pr sc_l_tree (fun _ _ _ _ _ _ us hl => match us, hl with | [_, _, _], _ => rfl) (fun vs H Q E h => ?_) (fun cdv A outer s H vs Q E hr h => ?_)
    · obtain ⟨d, L, B, bs, deep, rfl, _⟩ := h
      rfl
    · obtain ⟨d, L, B, bs, deep, rfl, hdD, hD, eB, hB1, hB2, hb1, hb2, hdz, q⟩ := h
      have hu := hr.units
      refine ⟨_, (C8.pss_cut (ps_if (PW.pt (pw_and (pt_cmpR op_eq (pe_callB (call_lenK (K := K)) (by rfl) T.m_len b_len (pa_cons (pv 1) pa_nil)) pe_int (nomark _)) (pw_and1 (PW.pt (pw_or (pt_cmpR op_eq (pv 2) pe_int (nomark _)) (pw_or1 (pt_cmpR op_gt (pe_pr G_l_draw (hr.mono (by omega)) (pa_cons (pv 0) (pa_cons pe_int pa_nil))) pe_int (nomark _)))))))) (pss_one (ps_ret (pe_ix (ix_listK (K := K)) (pv 1) pe_int (fun _ _ => rfl)))) pss_nil)
 (pss_cons (ps_par (i := 3) (j := 4) rfl sc_l_tree.nd rfl rfl (by decide) rfl rfl (pa_cons (pe_callTy call_list_of (by rfl) T.m_list b_list (pa_cons (pv 1) pa_nil)) (pa_cons (pe_lst pa_nil) pa_nil)) (by rfl))
 (pss_cons (ps_while PassesOwn.never (pt_cmpR (op_neE hu (K := K)) (pv 3) (pe_lst pa_nil) (nomark _)) (C8.pss_cut (ps_set (i := 5) sc_l_tree.nd rfl (Or.inl rfl) (pe_ifExp (PW.pt (pw_and (pt_cmpR op_gt (pv 2) pe_int (nomark _)) (pw_and1 (pt_cmpR op_eq (pe_pr G_l_draw (hr.mono (by omega)) (pa_cons (pv 0) (pa_cons pe_int pa_nil))) pe_int (nomark _))))) (pe_op op_add pe_int (pe_pr G_l_draw (hr.mono (by omega)) (pa_cons (pv 0) (pa_cons (pe_callB (call_lenK (K := K)) (by rfl) T.m_len b_len (pa_cons (pv 3) pa_nil)) pa_nil)))) pe_int))
 (C8.pss_cut (ps_set (i := 6) sc_l_tree.nd rfl (Or.inl rfl) (pe_ifExp (PW.pt (pw_and (pt_cmpR op_gt (pv 2) pe_int (nomark _)) (pw_and1 (PW.pt (pw_or (pt_cmpR op_gt (pv 5) pe_int (nomark _)) (pw_or1 (pt_cmpR op_eq (pe_pr G_l_draw (hr.mono (by omega)) (pa_cons (pv 0) (pa_cons pe_int pa_nil))) pe_int (nomark _)))))))) (pe_op op_sub (pv 2) pe_int) pe_int))
 (pss_cons (ps_expr (pe_bmK (K := K) PySem.F.plainAttrs_list PySem.F.slot_list_append PySem.F.type_list_append mt_append (pv 4) (pa_cons (pe_pr G_l_tree (hr.mono (by omega)) (pa_cons (pv 0) (pa_cons (pe_slice sl_list (pv 3) po_none (po_some (pv 5))) (pa_cons (pv 6) pa_nil)))) pa_nil)))
 (pss_one (ps_set (i := 3) sc_l_tree.nd rfl (Or.inl rfl) (pe_slice sl_list (pv 3) (po_some (pv 5)) po_none)))))))
 (pss_one (ps_ret (pe_tup (pa_cons (pe_op op_add pe_int (pe_pr G_l_draw (hr.mono (by omega)) (pa_cons (pv 0) (pa_cons (pe_callB (call_lenK (K := K)) (by rfl) T.m_len b_len (pa_cons (pv 4) pa_nil)) pa_nil)))) (pa_cons (pe_callTy call_tuple_of (by rfl) T.m_tuple b_tuple (pa_cons (pv 4) pa_nil)) pa_nil)))))))), ?_⟩
      have hret : bs.length = 1 → ∀ H1, Fr d L H H1 → Dk d L H1 → ∃ a xs i x, V.ref B = V.ref a ∧ V.int 0 = V.int i ∧ SqL K H1 a xs ∧ atI xs i = some x ∧ Q x H1 := fun h1 H1 f1 d1 => by
        match bs, h1, eB with
        | [b], _, eB =>
          exact ⟨B, _, 0, .int b, rfl, rfl, SqL.of (f1 _ _ hB1 hB2 eB), atI_nat (j := 0) rfl, q H1 (.btn b) _ f1 d1 rfl rfl trivial (Nat.zero_le _)⟩
      refine ⟨fun σ H1 => σ = start ["_law_deck_here", "_law_buttons_here", "_law_deep", "_law_rest", "_law_parts", "_law_size", "_law_inner"] [.ref d, .ref B, .int (deep : Nat)] ∧ Fr d L H H1 ∧ Dk d L H1 ∧ 1 ≤ deep, ?_, fun σ H1 hM => ?_⟩
      · refine ⟨_, rfl, B, _, rfl, .inl (SqL.of eB), rfl, _, rfl, ?_⟩
        by_cases c1 : bs.length = 1
        · refine ite2 (fun _ => ?_) fun h => absurd (decide_eq_true (by rw [List.length_map, c1]; rfl)) h
          refine ⟨_, rfl, rfl, _, rfl, ?_⟩
          by_cases c2 : deep = 0
          · refine ite2 (fun _ => ?_) fun h => absurd (decide_eq_true (by rw [c2]; rfl)) h
            exact iteT ⟨_, rfl, hret c1 H Fr.refl hD⟩
          · refine ite2 (fun h => absurd (V.int.inj (of_decide_eq_true h)) (by omega)) fun _ => ?_
            refine ⟨_, rfl, d, L, 4, rfl, hD, by decide, by decide, fun H1 r f1 d1 r0 r1 => ⟨_, _, rfl, rfl, _, rfl, ite2 (fun _ => ?_) fun _ => ?_⟩⟩
            · exact ⟨_, rfl, hret c1 H1 f1 d1⟩
            · exact ⟨rfl, f1, d1, by omega⟩
        · refine ite2 (fun h => absurd (V.int.inj (of_decide_eq_true h)) (by rw [List.length_map]; omega)) fun _ => ?_
          refine iteF ⟨rfl, Fr.refl, hD, ?_⟩
          cases deep with
          | zero => exact absurd (hdz rfl) c1
          | succ n => omega
      · obtain ⟨rfl, f1, d1, hd1⟩ := hM
        refine ⟨_, rfl, B, _, rfl, .inl (SqL.of (f1 _ _ hB1 hB2 eB)), fun R0 nR0 => ⟨Nat.zero_le _, fun Pp nPp => ?_⟩⟩
        have m2 := same_upd nR0 (.lst (bs.map V.int))
        have m3 := same_upd nPp (.lst [])
        have m23 := m2.trans m3
        have hR01 := d1.newd nR0
        have hR02 := d1.newL nR0
        have hP1 := (d1.same m2).newd nPp
        have hP2 := (d1.same m2).newL nPp
        have nPH1 : H1 Pp = none := m2.free nPp
        have hRP : R0 ≠ Pp := fun z => by
          rw [← z, upd_same] at nPp
          cases nPp
        refine ⟨_, _, rfl, fun m σ H2 => ∃ R rs ps us y1 y2, σ = [some (.ref d), some (.ref B), some (.int (deep : Nat)), some (.ref R), some (.ref Pp), y1, y2] ∧ Fr d L H1 H2 ∧ Dk d L H2 ∧ H2 R = some (.lst (rs.map V.int)) ∧ R ≠ d ∧ R ≠ L ∧ R ≠ Pp ∧ H2 Pp = some (.lst us) ∧ PAt H2 ps us ∧
          btnsL ps ++ rs = bs ∧ OkL ps ∧ depL ps ≤ deep - 1 ∧ m = rs.length,
          ⟨_, R0, bs, [], [], none, none, rfl, m23.fr, d1.same m23, m3 _ _ upd_same, hR01, hR02, hRP, upd_same, .nil, rfl, trivial, Nat.zero_le _, rfl⟩, fun m σ H2 hW => ?_⟩
        obtain ⟨R, rs, ps, us, y1, y2, rfl, f2, d2, eR, hR1, hR2, hRP, eP, hP, hbt, hok, hdp, rfl⟩ := hW
        refine ⟨_, rfl, Nat.zero_le _, fun z nz => ?_⟩
        have m4 := same_upd nz (.lst [])
        have d4 := d2.same m4
        have eR4 := m4 _ _ eR
        have eP4 := m4 _ _ eP
        have hpl := btns_pos_both.2 _ hok
        have hul := hP.len
        have hbl := congrArg List.length hbt
        rw [List.length_append] at hbl
        refine ⟨R, z, _, rfl, rfl, SqL.of eR4, SqL.of upd_same, DatL.ints rs, _, rfl, ?_⟩
        cases rs with
        | nil =>
          refine iteF ?_
          rw [List.append_nil] at hbt
          refine ⟨_, rfl, _, rfl, Pp, us, rfl, .inl (SqL.of eP4), d, L, (us.length : Int), rfl, d4, ?_, by omega, fun H5 r f5 d5 r0 r1 => ⟨_, _, rfl, rfl, ?_⟩⟩
          · have : us.length ≠ 0 := fun z => by
              have : ps = [] := List.eq_nil_of_length_eq_zero (by omega)
              rw [this] at hbt
              rw [← hbt] at hb1
              simp [btnsL] at hb1
            omega
          · have eP5 := f5 _ _ hP1 hP2 eP4
            refine ⟨_, rfl, Pp, us, rfl, .inl ⟨SqL.of eP5, fun tp ntp => ⟨le_line (by simp), fun tq ntq => ?_⟩⟩⟩
            have m6 := same_upd ntp (.tup us)
            have m7 := same_upd ntq (.tup [.int (1 + r), .ref tp])
            refine q _ (.trip (1 + r) ps) _ ((((f1.trans f2).trans m4.fr).trans f5).trans (m6.trans m7).fr) (d5.same (m6.trans m7)) (TAt.mk upd_same (m7 _ _ upd_same) (PAt.mono hP ((m4.T.trans (f5.T d4)).trans (m6.trans m7).T))) hbt ⟨by omega, by omega, hok⟩ ?_
            simp only [dep]
            omega
        | cons x0 rs =>
          refine iteT ⟨fun σ' H' => ∃ m', m' < (x0 :: rs).length ∧ ∃ R rs ps us y1 y2, σ' = [some (.ref d), some (.ref B), some (.int (deep : Nat)), some (.ref R), some (.ref Pp), y1, y2] ∧ Fr d L H1 H' ∧ Dk d L H' ∧ H' R = some (.lst (rs.map V.int)) ∧ R ≠ d ∧ R ≠ L ∧ R ≠ Pp ∧ H' Pp = some (.lst us) ∧ PAt H' ps us ∧
            btnsL ps ++ rs = bs ∧ OkL ps ∧ depL ps ≤ deep - 1 ∧ m' = rs.length, fun σ' H' h => h, ?_⟩
          generalize hrs : x0 :: rs = rs' at *
          have hrl : 1 ≤ rs'.length := by rw [← hrs]; simp
          refine ⟨fun σ H5 => ∃ size : Nat, σ = [some (.ref d), some (.ref B), some (.int (deep : Nat)), some (.ref R), some (.ref Pp), some (.int (size : Nat)), y2] ∧ Fr d L (upd H2 z (.lst [])) H5 ∧ Dk d L H5 ∧ 1 ≤ size ∧ size ≤ rs'.length ∧ (deep ≤ 1 → size = 1), ?_, fun σ H5 hM => ?_⟩
          · refine ⟨_, rfl, _, _, rfl, rfl, _, rfl, ite2 (fun h => ?_) fun h => ?_⟩
            · have hdg := of_decide_eq_true h
              refine ⟨_, rfl, d, L, 2, rfl, d4, by decide, by decide, fun H5 r f5 d5 r0 r1 => ⟨rfl, _, rfl, ite2 (fun _ => ?_) fun _ => ?_⟩⟩
              · refine ⟨_, rfl, _, rfl, R, _, rfl, .inl (SqL.of (f5 _ _ hR1 hR2 eR4)), d, L, _, rfl, d5, by rw [List.length_map]; omega, by rw [List.length_map]; omega, fun H6 r' f6 d6 r0' r1' => ⟨_, _, rfl, rfl, (1 + r').toNat, ?_, f5.trans f6, d6, by omega, ?_, by omega⟩⟩
                · have e : ((1 + r').toNat : Int) = 1 + r' := by omega
                  rw [e]
                  rfl
                · rw [List.length_map] at r1'
                  omega
              · exact ⟨1, rfl, f5, d5, by omega, by omega, by omega⟩
            · refine iteF ⟨1, rfl, Fr.refl, d4, by omega, by omega, by omega⟩
          · obtain ⟨size, rfl, f5, d5, hs1, hs2, hs3⟩ := hM
            refine ⟨fun σ H6 => ∃ inner : Nat, σ = [some (.ref d), some (.ref B), some (.int (deep : Nat)), some (.ref R), some (.ref Pp), some (.int (size : Nat)), some (.int (inner : Nat))] ∧ Fr d L H5 H6 ∧ Dk d L H6 ∧ inner < deep ∧ (inner = 0 → size = 1), ?_, fun σ H6 hM => ?_⟩
            · refine ⟨_, rfl, _, _, rfl, rfl, _, rfl, ite2 (fun h => ?_) fun h => ?_⟩
              · have hdg := of_decide_eq_true h
                have hin : ((deep - 1 : Nat) : Int) = (deep : Int) - 1 := by omega
                refine ⟨_, rfl, _, _, rfl, rfl, _, rfl, ite2 (fun h2 => ?_) fun h2 => ?_⟩
                · refine iteT ⟨_, rfl, _, _, rfl, rfl, deep - 1, ?_, Fr.refl, d5, by omega, by omega⟩
                  rw [hin]
                  rfl
                · have hs : size = 1 := by
                    have : ¬ ((size : Int) > 1) := fun z => h2 (decide_eq_true z)
                    omega
                  refine ⟨_, rfl, d, L, 6, rfl, d5, by decide, by decide, fun H6 r f6 d6 r0 r1 => ⟨rfl, _, rfl, ite2 (fun _ => ?_) fun _ => ?_⟩⟩
                  · refine ⟨_, rfl, _, _, rfl, rfl, deep - 1, ?_, f6, d6, by omega, fun _ => hs⟩
                    rw [hin]
                    rfl
                  · exact ⟨0, rfl, f6, d6, by omega, fun _ => hs⟩
              · have hs : size = 1 := hs3 (by
                  have : ¬ ((deep : Int) > 1) := fun z => h (decide_eq_true z)
                  omega)
                exact iteF ⟨0, rfl, Fr.refl, d5, by omega, fun _ => hs⟩
            · obtain ⟨inner, rfl, f6, d6, hi1, hi2⟩ := hM
              have f46 := (m4.fr.trans f5).trans f6
              have eR6 := f46 _ _ hR1 hR2 eR
              have eP6 := f46 _ _ hP1 hP2 eP
              refine ⟨_, rfl, .inl ⟨rfl, _, SqL.of eP6⟩, _, rfl, _, rfl, _, rfl, _, rfl, R, _, rfl, SqL.of eR6, fun p np => ?_⟩
              rw [cutV_take (by rw [List.length_map]; exact hs2), ← List.map_take]
              have m7 := same_upd np (.lst ((rs'.take size).map V.int))
              have htl : (rs'.take size).length = size := by rw [List.length_take]; omega
              refine ⟨_, rfl, d, L, p, rs'.take size, inner, rfl, by omega, d6.same m7, upd_same, d6.newd np, d6.newL np, by omega, by omega, fun z => by rw [htl]; exact hi2 z, fun H7 t u f7 d7 hT hbs hto htd => ?_⟩
              have eP7 := f7 _ _ hP1 hP2 (m7 _ _ eP6)
              have eR7 := f7 _ _ hR1 hR2 (m7 _ _ eR6)
              refine ⟨Pp, us, u, rfl, rfl, eP7, lt_line (by omega), ?_⟩
              have eR8 : upd H7 Pp (.lst (us ++ [u])) R = some (.lst (rs'.map V.int)) := by
                rw [upd_ne hRP]
                exact eR7
              refine ⟨_, rfl, _, rfl, _, rfl, R, _, rfl, SqL.of eR8, fun R9 n9 => ?_⟩
              rw [cutV_drop (by rw [List.length_map]; exact hs2), ← List.map_drop]
              have m9 := same_upd n9 (.lst ((rs'.drop size).map V.int))
              have d8 := d7.upd hP1 hP2 (.lst (us ++ [u]))
              have f27 : Fr d L H2 H7 := (f46.trans m7.fr).trans f7
              have sT : SameT H2 (upd (upd H7 Pp (.lst (us ++ [u]))) R9 (.lst ((rs'.drop size).map V.int))) := ((f27.T d2).trans (SameT.lst eP7 _)).trans m9.T
              have hdl : (rs'.drop size).length < rs'.length := by rw [List.length_drop]; omega
              refine ⟨_, hdl, R9, rs'.drop size, ps ++ [t], us ++ [u], _, _, rfl, ((f2.trans f27).upd nPH1 _).trans m9.fr, d8.same m9, upd_same, d8.newd n9, d8.newL n9, fun z => ?_, m9 _ _ upd_same, (PAt.mono hP sT).snoc (hT.mono ((SameT.lst eP7 _).trans m9.T)), ?_, okL_app hok ⟨hto, trivial⟩, ?_, rfl⟩
              · rw [z, upd_same] at n9
                cases n9
              · rw [btnsL_append, ← hbt, List.append_assoc]
                congr 1
                simp only [btnsL, hbs, List.append_nil, List.take_append_drop]
              · rw [depL_app]
                simp only [depL]
                omega
end
end K94

/-! K94D12: nests drawn. -/
namespace K94
open PySem L2 PySem.Spec PyProof.Rows
theorem f2_insert {H : Hp} {ps : List Tree} {us : List V} (h : PAt H ps us) {t : Tree} {u : V} (ht : TAt H t u) (i : Nat) : PAt H (ps.take i ++ [t] ++ ps.drop i) (us.take i ++ [u] ++ us.drop i) := ((F2.take h i).snoc ht).app (F2.drop h i)
theorem ins_perm {α : Type} (ps : List α) (t : α) (i : Nat) : (ps.take i ++ [t] ++ ps.drop i).Perm (t :: ps) := by
  have e : ps.take i ++ [t] ++ ps.drop i = ps.take i ++ t :: ps.drop i := by simp
  rw [e]
  have := (List.perm_middle (a := t) (l₁ := ps.take i) (l₂ := ps.drop i))
  rw [List.take_append_drop] at this
  exact this
section
variable {mg : Str → Option Value} {K : PySem.W.Frag} {P : Program} {w : World} {base : Heap}
theorem pr_lnest (T : Txt K mg) : Pr P w K mg base "_law_nest" ["_law_deck_here", "_law_buttons_here"] 2 spNst := by
  have G_l_draw := pr_draw (P := P) (w := w) (base := base) T
  refine T.l_nest.pr sc_l_nest (fun _ _ _ _ _ _ us hl => match us, hl with | [_, _], _ => rfl) (fun vs H Q E h => ?_) (fun cdv A outer s H vs Q E hr h => ?_)
  · obtain ⟨d, L, B, bs, rfl, _⟩ := h
    rfl
  · obtain ⟨d, L, B, bs, rfl, hD, eB, hB1, hB2, hb1, hb2, q⟩ := h
    have hu := hr.units
    refine ⟨_, (pss_cons (ps_par (i := 2) (j := 3) rfl sc_l_nest.nd rfl rfl (by decide) rfl rfl (pa_cons (pe_callTy call_list_of (by rfl) T.m_list b_list (pa_cons (pv 1) pa_nil)) (pa_cons pe_non pa_nil)) (by rfl))
 (pss_cons (ps_while PassesOwn.never (PW.pt (pw_or (pt_cmpR (op_neE hu (K := K)) (pv 2) (pe_lst pa_nil) (nomark _)) (pw_or1 (pt_not (pt_val (pe_callB (call_isiK' (K := K)) (by rfl) T.m_isinstance b_isinstance (pa_cons (pv 3) (pa_cons (pe_bltn (v := .ty "tuple") (by rfl) T.m_tuple b_tuple rfl) pa_nil)))))))) (pss_cons (ps_set (i := 4) sc_l_nest.nd rfl (Or.inl rfl) (pe_callB (call_min2 rfl) (by rfl) T.m_min b_min (pa_cons (pe_callB (call_lenK (K := K)) (by rfl) T.m_len b_len (pa_cons (pv 2) pa_nil)) (pa_cons (pe_op op_add pe_int (pe_pr G_l_draw (hr.mono (by omega)) (pa_cons (pv 0) (pa_cons pe_int pa_nil)))) pa_nil))))
 (pss_cons (ps_set (i := 5) sc_l_nest.nd rfl (Or.inl rfl) (pe_slice sl_list (pv 2) po_none (po_some (pv 4))))
 (C8.pss_cut (ps_if (pt_cmpR op_notN (pv 3) pe_non (nomark _)) (pss_one (ps_expr (pe_bmK (K := K) PySem.F.plainAttrs_list PySem.F.slot_list_insert PySem.F.type_list_insert mt_insert (pv 5) (pa_cons (pe_pr G_l_draw (hr.mono (by omega)) (pa_cons (pv 0) (pa_cons (pe_op op_add (pe_callB (call_lenK (K := K)) (by rfl) T.m_len b_len (pa_cons (pv 5) pa_nil)) pe_int) pa_nil))) (pa_cons (pv 3) pa_nil))))) pss_nil)
 (pss_one (ps_par (i := 3) (j := 2) rfl sc_l_nest.nd rfl rfl (by decide) rfl rfl (pa_cons (pe_tup (pa_cons (pe_op op_add pe_int (pe_pr G_l_draw (hr.mono (by omega)) (pa_cons (pv 0) (pa_cons (pe_callB (call_lenK (K := K)) (by rfl) T.m_len b_len (pa_cons (pv 5) pa_nil)) pa_nil)))) (pa_cons (pe_callTy call_tuple_of (by rfl) T.m_tuple b_tuple (pa_cons (pv 5) pa_nil)) pa_nil))) (pa_cons (pe_slice sl_list (pv 2) (po_some (pv 4)) po_none) pa_nil)) (by rfl)))))))
 (pss_one (ps_ret (pv 3))))), ?_⟩
    refine ⟨_, rfl, B, _, rfl, .inl (SqL.of eB), fun R0 nR0 => ⟨_, _, rfl, ?_⟩⟩
    have m2 := same_upd nR0 (.lst (bs.map V.int))
    refine ⟨fun m σ H2 => ∃ R rs iv y1 y2, σ = [some (.ref d), some (.ref B), some (.ref R), some iv, y1, y2] ∧ Fr d L H H2 ∧ Dk d L H2 ∧ H2 R = some (.lst (rs.map V.int)) ∧ R ≠ d ∧ R ≠ L ∧ m = rs.length ∧ rs.length ≤ bs.length ∧
      ((iv = .non ∧ rs = bs) ∨ ∃ k ps, TAt H2 (.trip k ps) iv ∧ Ok (.trip k ps) ∧ Nest (.trip k ps) ∧ (btnsL ps ++ rs).Perm bs ∧ depL ps + 1 + rs.length ≤ bs.length),
      ⟨_, R0, bs, .non, none, none, rfl, m2.fr, hD.same m2, upd_same, hD.newd nR0, hD.newL nR0, rfl, Nat.le_refl _, .inl ⟨rfl, rfl⟩⟩, fun m σ H2 hW => ?_⟩
    obtain ⟨R, rs, iv, y1, y2, rfl, f2, d2, eR, hR1, hR2, rfl, hrb, hcase⟩ := hW
    refine ⟨_, rfl, Nat.zero_le _, fun z nz => ?_⟩
    have m4 := same_upd nz (.lst [])
    have d4 := d2.same m4
    have eR4 := m4 _ _ eR
    refine ⟨R, z, _, rfl, rfl, SqL.of eR4, SqL.of upd_same, DatL.ints rs, _, rfl, ?_⟩
    cases rs with
    | nil =>
      refine iteF ?_
      rcases hcase with ⟨rfl, rfl⟩ | ⟨k, ps, hT, hok, hn, hp, hdl⟩
      · simp at hb1
      · obtain ⟨a, b, vs, rfl, e1, e2, hP⟩ := hT.trip
        refine ⟨_, rfl, ⟨_, _, .type "tuple", .type "tuple", true, rfl, .ty "tuple", .base (.tup (m4 _ _ e1)), kit_ty (by decide +kernel), _, rfl, iteF ?_⟩⟩
        rw [List.append_nil] at hp
        exact ⟨_, rfl, q _ (.trip k ps) _ (f2.trans m4.fr) d4 (hT.mono m4.T) hn hok hp (by simpa [dep] using hdl)⟩
    | cons x0 rs =>
      refine iteT (iteT ⟨fun σ' H' => ∃ m', m' < (x0 :: rs).length ∧ ∃ R rs iv y1 y2, σ' = [some (.ref d), some (.ref B), some (.ref R), some iv, y1, y2] ∧ Fr d L H H' ∧ Dk d L H' ∧ H' R = some (.lst (rs.map V.int)) ∧ R ≠ d ∧ R ≠ L ∧ m' = rs.length ∧ rs.length ≤ bs.length ∧
        ((iv = .non ∧ rs = bs) ∨ ∃ k ps, TAt H' (.trip k ps) iv ∧ Ok (.trip k ps) ∧ Nest (.trip k ps) ∧ (btnsL ps ++ rs).Perm bs ∧ depL ps + 1 + rs.length ≤ bs.length), fun σ' H' h => h, ?_⟩)
      generalize hrs : x0 :: rs = rs' at *
      have hrl : 1 ≤ rs'.length := by rw [← hrs]; simp
      refine ⟨_, rfl, R, _, rfl, .inl (SqL.of eR4), _, rfl, d, L, 3, rfl, d4, by decide, by decide, fun H5 r f5 d5 r0 r1 => ⟨_, _, rfl, rfl, _, _, rfl, ?_⟩⟩
      have hsz : ∃ size : Nat, (if (1 + r) < ((rs'.map V.int).length : Int) then (1 + r) else ((rs'.map V.int).length : Int)) = (size : Int) ∧ 1 ≤ size ∧ size ≤ rs'.length := by
        rw [List.length_map]
        split
        · exact ⟨(1 + r).toNat, by omega, by omega, by omega⟩
        · exact ⟨rs'.length, rfl, hrl, Nat.le_refl _⟩
      obtain ⟨size, hse, hs1, hs2⟩ := hsz
      rw [hse]
      have f25 : Fr d L H2 H5 := m4.fr.trans f5
      have eR5 := f25 _ _ hR1 hR2 eR
      refine ⟨_, rfl, _, rfl, _, rfl, R, _, rfl, SqL.of eR5, fun Pp nP => ?_⟩
      rw [cutV_take (by rw [List.length_map]; exact hs2), ← List.map_take]
      have m6 := same_upd nP (.lst ((rs'.take size).map V.int))
      have d6 := d5.same m6
      have hP1 := d5.newd nP
      have hP2 := d5.newL nP
      have hPR : R ≠ Pp := fun z => by
        rw [← z, eR5] at nP
        cases nP
      have htl : (rs'.take size).length = size := by rw [List.length_take]; omega
      obtain ⟨g1, g2, g3, g4, g5⟩ := btn_facts (rs'.take size)
      refine ⟨fun σ H7 => ∃ ps us, σ = [some (.ref d), some (.ref B), some (.ref R), some iv, some (.int (size : Nat)), some (.ref Pp)] ∧ Fr d L H5 H7 ∧ Dk d L H7 ∧ H7 Pp = some (.lst us) ∧ PAt H7 ps us ∧ OkL ps ∧ NestL ps ∧ ntr ps ≤ 1 ∧ 1 ≤ ps.length ∧ (btnsL ps ++ rs'.drop size).Perm bs ∧ depL ps + 1 + (rs'.drop size).length ≤ bs.length, ?_, fun σ H7 hM => ?_⟩
      · rcases hcase with ⟨rfl, hrb'⟩ | ⟨k, ps, hT, hok, hn, hp, hdl⟩
        · refine ⟨_, rfl, rfl, _, rfl, iteF ⟨(rs'.take size).map Tree.btn, _, rfl, m6.fr, d6, upd_same, btn_pat _, g1, g2, by omega, by rw [List.length_map]; omega, ?_, ?_⟩⟩
          · rw [g5, List.take_append_drop, hrb']
          · rw [g4, List.length_drop]
            omega
        · have hni : iv ≠ .non := by
            obtain ⟨a, b, vs, rfl, _⟩ := hT.trip
            exact fun z => nomatch z
          have hd1 : (!decide (iv = .non)) = true := by simp [hni]
          refine ⟨_, rfl, rfl, _, rfl, ?_⟩
          rw [hd1]
          refine iteT ⟨_, rfl, .inl ⟨rfl, _, SqL.of upd_same⟩, _, rfl, _, rfl, Pp, _, rfl, .inl (SqL.of upd_same), _, _, rfl, rfl, d, L, _, rfl, d6, by rw [List.length_map]; omega, by rw [List.length_map]; omega, fun H7 r2 f7 d7 r20 r21 => ?_⟩
          rw [List.length_map, htl] at r21
          have eP7 := f7 _ _ hP1 hP2 (upd_same : upd H5 Pp (.lst ((rs'.take size).map V.int)) Pp = _)
          refine ⟨_, rfl, Pp, _, r2, iv, rfl, rfl, eP7, lt_line (by rw [List.length_map]; omega), r20, by omega, ?_⟩
          have sT : SameT H2 H7 := (f25.T d2).trans (m6.T.trans (f7.T d6))
          have sT8 := SameT.lst eP7 (.lst (((rs'.take size).map V.int).take r2.toNat ++ [iv] ++ ((rs'.take size).map V.int).drop r2.toNat))
          have hpm := ins_perm ((rs'.take size).map Tree.btn) (.trip k ps) r2.toNat
          refine ⟨((rs'.take size).map Tree.btn).take r2.toNat ++ [.trip k ps] ++ ((rs'.take size).map Tree.btn).drop r2.toNat, _, rfl, (m6.fr.trans f7).upd nP _, d7.upd hP1 hP2 _, upd_same, f2_insert (btn_pat _) (hT.mono (sT.trans sT8)) _, ?_, ?_, ?_, ?_, ?_, ?_⟩
          · rw [okL_iff]
            intro p hp
            rcases List.mem_cons.mp (hpm.mem_iff.mp hp) with rfl | h
            · exact hok
            · exact okL_iff.mp g1 p h
          · rw [nestL_iff]
            intro p hp
            rcases List.mem_cons.mp (hpm.mem_iff.mp hp) with rfl | h
            · exact hn
            · exact nestL_iff.mp g2 p h
          · rw [ntr_perm hpm]
            simp only [ntr, isTrip, g3]
            decide
          · rw [hpm.length_eq]
            simp
          · have e1 := btnsL_perm hpm
            simp only [btnsL, g5] at e1
            refine (e1.append_right _).trans ?_
            simp only [btns]
            rw [List.append_assoc, List.take_append_drop]
            exact hp
          · have e1 : depL (((rs'.take size).map Tree.btn).take r2.toNat ++ [.trip k ps] ++ ((rs'.take size).map Tree.btn).drop r2.toNat) ≤ depL ps + 1 := by
              rw [depL_le]
              intro p hp
              rcases List.mem_cons.mp (hpm.mem_iff.mp hp) with rfl | h
              · simp only [dep]
                omega
              · have := depL_le.mp (Nat.le_of_eq g4) p h
                omega
            rw [List.length_drop]
            omega
      · obtain ⟨ps, us, rfl, f7, d7, eP, hP, hok, hn, hnt, hp1, hpm, hdl⟩ := hM
        have hul := hP.len
        have eR7 := f7 _ _ hR1 hR2 eR5
        have hul2 : us.length ≤ 1000 := by
          have h1 := btns_pos_both.2 _ hok
          have h2 := hpm.length_eq
          rw [List.length_append] at h2
          omega
        refine ⟨_, rfl, _, rfl, Pp, us, rfl, .inl (SqL.of eP), d, L, (us.length : Int), rfl, d7, by omega, by omega, fun H8 r3 f8 d8 r30 r31 => ⟨_, _, rfl, rfl, ?_⟩⟩
        have eP8 := f8 _ _ hP1 hP2 eP
        have eR8 := f8 _ _ hR1 hR2 eR7
        refine ⟨_, rfl, Pp, us, rfl, .inl ⟨SqL.of eP8, fun tp ntp => ⟨le_line (by simp), fun tq ntq => ?_⟩⟩⟩
        have m9 := same_upd ntp (.tup us)
        have m10 := same_upd ntq (.tup [.int (1 + r3), .ref tp])
        have eR10 := m10 _ _ (m9 _ _ eR8)
        have d10 := d8.same (m9.trans m10)
        refine ⟨_, rfl, _, rfl, _, rfl, R, _, rfl, SqL.of eR10, fun R9 n9 => ⟨_, _, rfl, ?_⟩⟩
        rw [cutV_drop (by rw [List.length_map]; exact hs2), ← List.map_drop]
        have m11 := same_upd n9 (.lst ((rs'.drop size).map V.int))
        have hdl2 : (rs'.drop size).length < rs'.length := by rw [List.length_drop]; omega
        refine ⟨_, hdl2, R9, rs'.drop size, .ref tq, _, _, rfl, (((f2.trans f25).trans f7).trans f8).trans ((m9.trans m10).trans m11).fr, d10.same m11, upd_same, d10.newd n9, d10.newL n9, rfl, by omega, .inr ⟨1 + r3, ps, ?_, ⟨by omega, by omega, hok⟩, ⟨hnt, hn⟩, hpm, hdl⟩⟩
        exact TAt.mk (m11 _ _ upd_same) (m11 _ _ (m10 _ _ upd_same)) (PAt.mono hP ((f8.T d7).trans ((m9.trans m10).trans m11).T))
end
end K94

/-! K94D13: what the law asks: is_turned, is_parted. -/
namespace K94
open PySem L2 PySem.Spec PyProof.Rows
def spTurned (d : Nat) : Sp := fun vs H Q _ => ∃ (t : Tree) (v : V) (B : Addr) (bs : List Int) (es : List Ev) (u : V), vs = [v, .ref B, u] ∧ TAt H t v ∧ Ok t ∧ dep t < d ∧ H B = some (.lst (bs.map V.int)) ∧ (btns t).Perm bs ∧ 1 ≤ bs.length ∧ bs.length ≤ 500 ∧ EvsAt H es u ∧ (∀ e ∈ es, e.2 ∈ bs) ∧ es.length ≤ 500 ∧
  ∀ H', Same H H' → Q (.bl true) H'
def kvsT : List (Key × V) := [(.inr "press", .str "let"), (.inr "let", .str "press")]
theorem kvsT_get (b : Bool) : valV kvsT (.inr (word b)) = some (.str (word (!b))) := by
  cases b
  · rfl
  · rfl
theorem kvsT_at {H : Hp} {a : Addr} (e : H a = some (.dK kvsT)) (b : Bool) : DGet H a (.str (word b)) (some (.str (word (!b)))) := by
  have := DGet.k (k := (.inr (word b) : Key)) e
  rw [kvsT_get] at this
  exact this
theorem kvsT_merge : mergeK [] kvsT = kvsT := by rfl
theorem bl_get {bs : List Bool} {i : Nat} {x : V} (h : (bs.map V.bl)[i]? = some x) : ∃ b, bs[i]? = some b ∧ x = .bl b := by
  rw [List.getElem?_map] at h
  cases e : bs[i]? with
  | none => rw [e] at h; simp at h
  | some W => rw [e] at h; exact ⟨W, rfl, (Option.some.inj h).symm⟩
theorem int_get {bs : List Int} {i : Nat} {x : V} (h : (bs.map V.int)[i]? = some x) : ∃ b, bs[i]? = some b ∧ x = .int b := by
  rw [List.getElem?_map] at h
  cases e : bs[i]? with
  | none => rw [e] at h; simp at h
  | some W => rw [e] at h; exact ⟨W, rfl, (Option.some.inj h).symm⟩
section
variable {mg : Str → Option Value} {K : PySem.W.Frag} {P : Program} {w : World} {base : Heap}
theorem pr_is_turned (T : Txt K mg) (d : Nat) : PrG P w K mg base "_law_is_turned" ["_law_tree_here", "_law_buttons_here", "_law_events_here"] (d + 4) (spTurned d) := by
  have G_run := pr_run (P := P) (w := w) (base := base) T d
  have G_contrary := pr_contrary (P := P) (w := w) (base := base) T d
  refine T.l_is_turned.prG sc_l_is_turned (fun _ _ _ _ _ _ us hl => match us, hl with | [_, _, _], _ => rfl) (fun vs H Q E h => ?_) (fun cdv A outer s H vs Q E hgd hr h => ?_)
  · obtain ⟨t, v, B, bs, es, u, rfl, _⟩ := h
    rfl
  · obtain ⟨t, v, B, bs, es, u, rfl, hT, hok, hd, eB, hpm, hb1, hb2, hE, hin, hes, q⟩ := h
    have hu := hu_of hr
    have hu64 := hr.units
    refine ⟨_, (pss_cons (ps_set (i := 3) sc_l_is_turned.nd rfl (Or.inr rfl) (pe_disp (pps_cons pe_str pe_str (pps_cons pe_str pe_str pps_nil)) (by rfl) (by rfl) (fun z => by cases z) (by decide)))
 (pss_cons (ps_set (i := 4) sc_l_is_turned.nd rfl (Or.inl rfl) (pe_callTy call_tuple_of (by rfl) T.m_tuple b_tuple (pa_cons (pe_lc (own := [("_law_button", 6)]) (g := gName 6) (by rfl) sc_l_is_turned.nd (pi_listK (K := K) (pv 1)) (blkOk_by (own := [("_law_button", 6)]) (N := ["_law_tree_here", "_law_buttons_here", "_law_events_here", "_law_turned", "_law_other", "_law_due", "_law_button", "_law_word", "_law_is_so"]) (sc := defScope s_l_is_turned) (by decide +kernel)) (fun _ _ _ _ _ => (pg_name (i := 6) sc_l_is_turned.nd rfl (Or.inl rfl))) (fun _ _ _ _ _ => pts_nil) (fun _ _ _ _ _ => (pe_tup (pa_cons pe_str (pa_cons (pv 6) pa_nil))))) pa_nil)))
 (C8.pss_cut (ps_set (i := 4) sc_l_is_turned.nd rfl (Or.inl rfl) (pe_op (op_catK (K := K)) (pv 4) (pe_callTy call_tuple_of (by rfl) T.m_tuple b_tuple (pa_cons (pe_lc (own := [("_law_word", 7), ("_law_button", 6)]) (g := gTup K 2 (gCons (gName 7) (gCons (gName 6) gNil))) (by rfl) sc_l_is_turned.nd (pi_tupK (K := K) (pv 2)) (blkOk_by (own := [("_law_word", 7), ("_law_button", 6)]) (N := ["_law_tree_here", "_law_buttons_here", "_law_events_here", "_law_turned", "_law_other", "_law_due", "_law_button", "_law_word", "_law_is_so"]) (sc := defScope s_l_is_turned) (by decide +kernel)) (fun _ _ _ _ _ => (pg_tupK (K := K) rfl (pgs_cons (pg_name (i := 7) sc_l_is_turned.nd rfl (Or.inl rfl)) (pgs_cons (pg_name (i := 6) sc_l_is_turned.nd rfl (Or.inl rfl)) pgs_nil)))) (fun _ _ _ _ _ => pts_nil) (fun _ _ _ _ _ => (pe_tup (pa_cons (pe_dget hu (pv 3) (pv 7) (fun _ _ => rfl)) (pa_cons (pv 6) pa_nil))))) pa_nil))))
 (pss_cons (ps_set (i := 5) sc_l_is_turned.nd rfl (Or.inl rfl) (pe_callTy call_tuple_of (by rfl) T.m_tuple b_tuple (pa_cons (pe_lc (own := [("_law_is_so", 8)]) (g := gName 8) (by rfl) sc_l_is_turned.nd (pi_tupK (K := K) (pe_pr G_run (hr.mono (by omega)) (pa_cons (pv 0) (pa_cons (pv 2) pa_nil)))) (blkOk_by (own := [("_law_is_so", 8)]) (N := ["_law_tree_here", "_law_buttons_here", "_law_events_here", "_law_turned", "_law_other", "_law_due", "_law_button", "_law_word", "_law_is_so"]) (sc := defScope s_l_is_turned) (by decide +kernel)) (fun _ _ _ _ _ => (pg_name (i := 8) sc_l_is_turned.nd rfl (Or.inl rfl))) (fun _ _ _ _ _ => pts_nil) (fun _ _ _ _ _ => (pe_not (pv 8)))) pa_nil)))
 (pss_one (ps_ret (pe_cmpR op_eq (pe_callB (call_reprB hgd hu64) (by rfl) T.m_repr b_repr (pa_cons (pe_slice sl_tupA (pe_pr G_run (hr.mono (by omega)) (pa_cons (pe_pr G_contrary (hr.mono (by omega)) (pa_cons (pv 0) pa_nil)) (pa_cons (pv 4) pa_nil))) (po_some (pe_callB (call_lenK (K := K)) (by rfl) T.m_len b_len (pa_cons (pv 1) pa_nil))) po_none) pa_nil)) (pe_callB (call_reprB hgd hu64) (by rfl) T.m_repr b_repr (pa_cons (pv 5) pa_nil)) (nomark _)))))))), ?_⟩
    refine fun D nD => ⟨upd_same, kvsT, rfl, by decide, ?_⟩
    rw [kvsT_merge]
    have s1 : Same H (upd (upd H D (.dK [])) D (.dK kvsT)) := (same_upd nD _).upd nD _
    have eD : upd (upd H D (.dK [])) D (.dK kvsT) D = some (.dK kvsT) := upd_same
    generalize hH1 : upd (upd H D (.dK [])) D (.dK kvsT) = H1 at s1 eD
    have eB1 := s1 _ _ eB
    refine ⟨_, rfl, B, rfl, ⟨_, SqL.of eB1⟩, fun C nC => lc_list (K := K) (a := B) (xs := bs.map V.int) (fun i H2 => Same H1 H2 ∧ ∃ acc, H2 C = some (.lst acc) ∧ F2 (EvAt H2) (press (bs.take i)) acc) ⟨same_upd nC _, [], upd_same, .nil⟩ (fun i H2 _ h => SqL.of (h.1 _ _ eB1)) (fun i x H2 hx h => ?_) (fun H2 h => ?_)⟩
    · obtain ⟨s2, acc, eC, hA⟩ := h
      obtain ⟨b, hb, rfl⟩ := int_get hx
      have hal := hA.len
      have hi := (List.getElem?_eq_some_iff.mp hb).1
      rw [press, List.length_map, List.length_take] at hal
      refine ⟨rfl, _, rfl, le_line (by simp), fun p np => ?_⟩
      have m3 := same_upd np (.tup [.str "press", .int b])
      have eC3 := m3 _ _ eC
      refine ⟨acc, eC3, lt_line (by omega), (s2.trans m3).upd nC _, acc ++ [.ref p], upd_same, ?_⟩
      rw [press, List.take_add_one, hb, List.map_append]
      exact (evs_mono (m3.T.trans (SameT.lst eC3 _)) hA).snoc ⟨p, rfl, (SameT.lst eC3 _) _ _ upd_same⟩
    · obtain ⟨s2, acc, eC, hA⟩ := h
      rw [List.length_map, List.take_length] at hA
      refine ⟨C, acc, rfl, .inl ⟨SqL.of eC, fun o1 n1 => ?_⟩⟩
      have m3 := same_upd n1 (.tup acc)
      have hA3 := evs_mono m3.T hA
      have eo : upd H2 o1 (.tup acc) o1 = some (.tup acc) := upd_same
      have s13 : Same H1 (upd H2 o1 (.tup acc)) := s2.trans m3
      generalize upd H2 o1 (.tup acc) = H3 at hA3 eo s13
      have hal := hA.len
      rw [press, List.length_map] at hal
      obtain ⟨ue, ve, rfl, eue, hV⟩ := id hE
      have hvl := hV.len
      refine ⟨fun σ H4 => ∃ o y7 y8 y9, σ = [some v, some (.ref B), some (.ref ue), some (.ref D), some o, none, y7, y8, y9] ∧ Same H1 H4 ∧ EvsAt H4 (press bs ++ flip es) o, ?_, fun σ H4 hM => ?_⟩
      · have eue3 := s13 _ _ (s1 _ _ eue)
        refine ⟨_, rfl, _, rfl, ue, rfl, ⟨_, SqT.of eue3⟩, fun G nG => lc_tup (K := K) (a := ue) (xs := ve) (fun i H4 => Same H3 H4 ∧ ∃ acc, H4 G = some (.lst acc) ∧ F2 (EvAt H4) (flip (es.take i)) acc) ⟨same_upd nG _, [], upd_same, .nil⟩ (fun i H4 _ h => SqT.of (h.1 _ _ eue3)) (fun i x H4 hx h => ?_) (fun H4 h => ?_)⟩
        · obtain ⟨s4, acc2, eG, hA2⟩ := h
          obtain ⟨e, he, p, rfl, ep⟩ := hV.get hx
          have hal2 := hA2.len
          have hi := (List.getElem?_eq_some_iff.mp he).1
          rw [flip, List.length_map, List.length_take] at hal2
          have s34 := (s1.trans s13).trans s4
          refine ⟨p, _, rfl, SqT.of (s34 _ _ ep), rfl, _, _, rfl, _, _, rfl, rfl, rfl, _, rfl, _, rfl, D, _, rfl, kvsT_at (s4 _ _ (s13 _ _ eD)) e.1, _, rfl, le_line (by simp), fun p2 n2 => ?_⟩
          have m5 := same_upd n2 (.tup [.str (word (!e.1)), .int e.2])
          have eG5 := m5 _ _ eG
          refine ⟨acc2, eG5, lt_line (by omega), (s4.trans m5).upd nG _, acc2 ++ [.ref p2], upd_same, ?_⟩
          rw [flip, List.take_add_one, he, List.map_append]
          exact (evs_mono (m5.T.trans (SameT.lst eG5 _)) hA2).snoc ⟨p2, rfl, (SameT.lst eG5 _) _ _ upd_same⟩
        · obtain ⟨s4, acc2, eG, hA2⟩ := h
          rw [← hvl, List.take_length] at hA2
          have hal2 := hA2.len
          rw [flip, List.length_map] at hal2
          refine ⟨G, acc2, rfl, .inl ⟨SqL.of eG, fun o2 n2 => ?_⟩⟩
          have m5 := same_upd n2 (.tup acc2)
          have s35 := s4.trans m5
          have hA5 := evs_mono m5.T hA2
          have hA1 := evs_mono s35.T hA3
          refine ⟨o1, o2, acc, acc2, rfl, rfl, SqT.of (s35 _ _ eo), SqT.of upd_same, le_line (by omega), fun z => ?_, fun _ z => ?_, fun _ _ o3 n3 => ?_⟩
          · rw [z] at hal
            have hal' : bs.length = 0 := hal
            omega
          · subst z
            refine ⟨_, _, _, _, rfl, s13.trans s35, o1, acc, rfl, s35 _ _ eo, ?_⟩
            have : flip es = [] := List.eq_nil_of_length_eq_zero (by rw [flip, List.length_map]; simpa using hal2)
            rw [this, List.append_nil]
            exact hA1
          · have m6 := same_upd n3 (.tup (acc ++ acc2))
            exact ⟨_, _, _, _, rfl, (s13.trans s35).trans m6, o3, _, rfl, upd_same, (evs_mono m6.T hA1).app (evs_mono m6.T hA5)⟩
      · obtain ⟨o, y7, y8, y9, rfl, s4, hO⟩ := hM
        have s04 := s1.trans s4
        have hbl := hpm.length_eq
        have hin2 : ∀ e ∈ es, e.2 ∈ btns t := fun e he => hpm.mem_iff.mpr (hin e he)
        refine ⟨_, rfl, _, rfl, t, es, v, .ref ue, rfl, hT.mono s04.T, hok, hd, by omega, hE.mono s04.T, hin2, by omega, fun H5 b5 s5 hb5 => ?_⟩
        obtain ⟨r1, rfl, er1⟩ := hb5
        refine ⟨r1, rfl, ⟨_, SqT.of er1⟩, fun F nF => lc_tup (K := K) (a := r1) (xs := ((sts noLot es).map fun L => goes L t).map V.bl) (fun i H6 => Same H5 H6 ∧ H6 F = some (.lst ((((((sts noLot es).map fun L => goes L t)).take i).map fun b => !b).map V.bl))) ⟨same_upd nF _, upd_same⟩ (fun i H6 _ h => SqT.of (h.1 _ _ er1)) (fun i x H6 hx h => ?_) (fun H6 h => ?_)⟩
        · obtain ⟨s6, eF⟩ := h
          obtain ⟨b, hb, rfl⟩ := bl_get hx
          have hi := (List.getElem?_eq_some_iff.mp hb).1
          rw [List.length_map, sts_length] at hi
          refine ⟨rfl, _, rfl, _, rfl, _, eF, lt_line (by rw [List.length_map, List.length_map, List.length_take]; omega), s6.upd nF _, ?_⟩
          rw [upd_same, List.take_add_one, hb, List.map_append, List.map_append]
          rfl
        · obtain ⟨s6, eF⟩ := h
          rw [List.length_map, List.take_length] at eF
          refine ⟨F, _, rfl, .inl ⟨SqL.of eF, fun du ndu => ?_⟩⟩
          have m7 := same_upd ndu (.tup (((((sts noLot es).map fun L => goes L t)).map fun b => !b).map V.bl))
          have s47 := (s5.trans s6).trans m7
          have s07 := s04.trans s47
          refine ⟨_, rfl, t, v, rfl, hT.mono s07.T, hok, hd, by omega, fun H8 ct s8 hC => ?_⟩
          have s48 := s47.trans s8
          refine ⟨_, rfl, con t, press bs ++ flip es, ct, o, rfl, hC, con_ok hok, by rw [con_dep]; exact hd, by rw [con_btns]; omega, hO.mono s48.T, fun e he => ?_, by rw [List.length_append, press, flip, List.length_map, List.length_map]; omega, fun H9 b9 s9 hb9 => ?_⟩
          · rw [con_btns]
            rcases List.mem_append.mp he with h | h
            · obtain ⟨b, hb, rfl⟩ := List.mem_map.mp h
              exact hpm.mem_iff.mpr hb
            · obtain ⟨e', he', rfl⟩ := List.mem_map.mp h
              exact hin2 e' he'
          · obtain ⟨r9, rfl, er9⟩ := hb9
            have s89 := s8.trans s9
            have hl9 : (((sts noLot (press bs ++ flip es)).map fun L => goes L (con t)).map V.bl).length = bs.length + es.length := by
              rw [List.length_map, List.length_map, sts_length, List.length_append, press, flip, List.length_map, List.length_map]
            refine ⟨_, rfl, B, _, rfl, .inl (SqL.of (s9 _ _ (s8 _ _ (s47 _ _ (s4 _ _ eB1))))), _, rfl, r9, _, rfl, SqT.of er9, fun z => ?_, fun _ p np => ?_⟩
            · have z1 := z.1
              rw [show (bs.map V.int).length = bs.length by simp, HT.sIx_nat, hl9] at z1
              omega
            · rw [show (bs.map V.int).length = bs.length by simp, cutV_drop (by rw [hl9]; omega), ← List.map_drop, turned (fun b hb => hpm.mem_iff.mp hb) es]
              have m10 := same_upd np (.tup (((sts noLot es).map fun L => !goes L t).map V.bl))
              refine ⟨p, _, rfl, SqT.of upd_same, by rw [List.length_map, sts_length]; omega, _, rfl, du, _, rfl, SqT.of (m10 _ _ (s89 _ _ upd_same)), by rw [List.length_map, List.length_map, sts_length]; omega, rfl, ?_⟩
              rw [List.map_map]
              show Q (.bl (decide (V.str (bTup ((sts noLot es).map fun M => !goes M t)).shown = V.str (bTup ((sts noLot es).map fun M => !goes M t)).shown))) _
              rw [decide_eq_true rfl]
              exact q _ ((s07.trans s89).trans m10)
end
end K94

/-! K94D14: is_parted. -/
namespace K94
open PySem L2 PySem.Spec PyProof.Rows
def spParted (d : Nat) : Sp := fun vs H Q _ => ∃ (t : Tree) (v : V) (B : Addr) (bs : List Int) (rows : List (Int × Int)) (bound : Int) (u : V), vs = [v, .ref B, u] ∧ TAt H t v ∧ Ok t ∧ dep t < d ∧ H B = some (.lst (bs.map V.int)) ∧ (btns t).Perm bs ∧ bs.length ≤ 10 ∧ Trade t ∧ ScAt H rows bound u ∧ (rows.map Prod.fst).Perm bs ∧ 1 ≤ bound ∧
  ∀ H', Same H H' → Q (.bl true) H'
/-- the lots by which tree and scale differ -/
def odd (t : Tree) (rows : List (Int × Int)) (bound : Int) (x : List Int) : Bool := !decide (V.bl (goes (mem x) t) = V.bl (decide (bound ≤ sumw (mem x) rows)))
theorem odd_ne {t : Tree} {rows : List (Int × Int)} {bound : Int} {x : List Int} : odd t rows bound x = true ↔ goes (mem x) t ≠ decide (bound ≤ sumw (mem x) rows) := by
  unfold odd
  rw [Bool.not_eq_true', decide_eq_false_iff_not]
  exact ⟨fun h e => h (by rw [e]), fun h e => h (V.bl.inj e)⟩
theorem sumw_none : ∀ rows : List (Int × Int), sumw noLot rows = 0
  | [] => rfl
  | (b, w) :: r => by
    simp only [sumw, sumw_none r, noLot]
    rfl
theorem odd_nil {t : Tree} {rows : List (Int × Int)} {bound : Int} (ok : Ok t) (hb : 1 ≤ bound) : odd t rows bound [] = false := by
  rw [Bool.eq_false_iff]
  intro h
  have gn : goes noLot t = false := goes_none ok fun _ _ => rfl
  rw [odd_ne, mem_nil, sumw_none, gn, decide_eq_false (by omega)] at h
  exact h rfl
theorem foldl_snoc_take {so : List Int} {i : Nat} {b : Int} (h : so[i]? = some b) (z : List (List Int)) : (so.take (i + 1)).foldl grow z = grow ((so.take i).foldl grow z) b := by
  rw [List.take_add_one, h, List.foldl_append]
  rfl
theorem dat_lots {K : PySem.W.Frag} {H : Hp} : ∀ {nss : List (List Int)} {us : List V}, F2 (IT H) nss us → ∃ ds, DpAll K H us ds ∧ PyData.canLayAll0 ds = true ∧ PyData.depthAll ds ≤ 1
  | _, _, .nil => ⟨[], .nil, rfl, by simp [PyData.depthAll]⟩
  | ns :: _, _, .cons ⟨a, rfl, ea⟩ t => by
    obtain ⟨ds, h1, h2, h3⟩ := dat_lots (K := K) t
    obtain ⟨g1, g2, g3⟩ := dat_ints (K := K) (H := H) ns
    refine ⟨.tuple (ns.map .int) :: ds, .cons (.tup (SqT.of ea) g1) h1, ?_, ?_⟩
    · simp only [PyData.canLayAll0, PyData.canLay0, g2, h2, Bool.and_self]
    · simp only [PyData.depthAll, PyData.depth, g3]
      omega
theorem DatL.lots {K : PySem.W.Frag} {H : Hp} {nss : List (List Int)} {us : List V} (h : F2 (IT H) nss us) : DatL K H us := by
  obtain ⟨ds, h1, h2, h3⟩ := dat_lots (K := K) h
  exact ⟨ds, h1, h2, by omega⟩
theorem pow_le {n : Nat} (h : n ≤ 10) : 2 ^ n ≤ 1024 := by
  have := Nat.pow_le_pow_right (n := 2) (by decide) h
  simpa using this
theorem last_get {α : Type} {xs : List α} {x : α} (h : xs[xs.length - 1]? = some x) : atI xs (-1) = some x := by
  cases e : xs with
  | nil => subst e; simp at h
  | cons y r =>
    have hne : xs ≠ [] := by rw [e]; exact List.cons_ne_nil _ _
    have e2 := (List.dropLast_concat_getLast hne)
    rw [← e, ← e2]
    have : xs.getLast hne = x := by
      rw [List.getLast_eq_getElem]
      exact Option.some.inj (by rw [← h, List.getElem?_eq_getElem])
    rw [this]
    exact atI_last _ _
section
variable {mg : Str → Option Value} {K : PySem.W.Frag} {P : Program} {w : World} {base : Heap}
theorem pr_is_parted (T : Txt K mg) (d : Nat) : Pr P w K mg base "_law_is_parted" ["_law_tree_here", "_law_buttons_here", "_law_scale_here"] (d + 4) (spParted d) := by
  have G_run := pr_run (P := P) (w := w) (base := base) T d
  have G_run_scale := pr_run_scale (P := P) (w := w) (base := base) T
  have G_l_does := pr_does (P := P) (w := w) (base := base) T d
  have G_l_weighs := pr_weighs (P := P) (w := w) (base := base) T
  refine T.l_is_parted.pr sc_l_is_parted (fun _ _ _ _ _ _ us hl => match us, hl with | [_, _, _], _ => rfl) (fun vs H Q E h => ?_) (fun cdv A outer s H vs Q E hr h => ?_)
  · obtain ⟨t, v, B, bs, rows, bound, u, rfl, _⟩ := h
    rfl
  · obtain ⟨t, v, B, bs, rows, bound, u, rfl, hT, hok, hd, eB, hpm, hb10, htr, hS, hrp, hbd, q⟩ := h
    have hu := hr.units
    refine ⟨_, (pss_cons (ps_set (i := 3) sc_l_is_parted.nd rfl (Or.inl rfl) (pe_lst (pa_cons (pe_tup pa_nil) pa_nil)))
 (pss_cons (ps_for PassesOwn.never rfl (pi_listK (K := K) (pe_callB cr_sortedI (by rfl) T.m_sorted b_sorted (pa_cons (pv 1) pa_nil))) (pg_name (i := 4) sc_l_is_parted.nd rfl (Or.inr rfl)) (pss_one (ps_set (i := 3) sc_l_is_parted.nd rfl (Or.inl rfl) (pe_op op_cat (pv 3) (pe_lc (own := [("_law_lot", 7)]) (g := gName 7) (by rfl) sc_l_is_parted.nd (pi_listK (K := K) (pv 3)) (blkOk_by (own := [("_law_lot", 7)]) (N := ["_law_tree_here", "_law_buttons_here", "_law_scale_here", "_law_lots", "_law_button", "_law_odd", "_law_events_here", "_law_lot"]) (sc := defScope s_l_is_parted) (by decide +kernel)) (fun _ _ _ _ _ => (pg_name (i := 7) sc_l_is_parted.nd rfl (Or.inl rfl))) (fun _ _ _ _ _ => pts_nil) (fun _ _ _ _ _ => (pe_op (op_catK (K := K)) (pv 7) (pe_tup (pa_cons (pv 4) pa_nil)))))))))
 (pss_cons (ps_setLc (i := 5) (own := [("_law_lot", 7)]) (g := gName 7) rfl sc_l_is_parted.nd rfl rfl (sw_true rfl rfl rfl (by decide +kernel)) (pi_listK (K := K) (pv 3)) (blkOk_by (own := [("_law_lot", 7)]) (N := ["_law_tree_here", "_law_buttons_here", "_law_scale_here", "_law_lots", "_law_button", "_law_odd", "_law_events_here", "_law_lot"]) (sc := defScope s_l_is_parted) (by decide +kernel)) (fun _ _ _ _ _ => (pg_name (i := 7) sc_l_is_parted.nd rfl (Or.inl rfl))) (fun _ _ _ _ _ => (pts_one (pt_cmpR op_ne (pe_pr G_l_does (hr.mono (by omega)) (pa_cons (pv 0) (pa_cons (pv 7) pa_nil))) (pe_pr G_l_weighs (hr.mono (by omega)) (pa_cons (pv 2) (pa_cons (pv 7) pa_nil))) (nomark _)))) (fun _ _ _ _ _ => (pv 7)))
 (pss_cons (ps_if (PW.pt (pw_or (pt_cmpR (op_eqE hu (K := K)) (pv 5) (pe_lst pa_nil) (nomark _)) (pw_or1 (PW.pt (pw_and (pt_cmpR (op_eqTE hu (K := K)) (pe_ix (ix_listK (K := K)) (pv 5) pe_int (fun _ _ => rfl)) (pe_tup pa_nil) (nomark _)) (pw_and1 (pt_cmpR op_eq (pe_callB (call_lenK (K := K)) (by rfl) T.m_len b_len (pa_cons (pv 5) pa_nil)) pe_int (nomark _)))))))) (pss_one (ps_ret pe_bl)) pss_nil)
 (pss_cons (ps_set (i := 6) sc_l_is_parted.nd rfl (Or.inl rfl) (pe_callTy call_tuple_of (by rfl) T.m_tuple b_tuple (pa_cons (pe_lc (own := [("_law_button", 4)]) (g := gName 4) (by rfl) sc_l_is_parted.nd (pi_tupK (K := K) (pe_ix (ix_listK (K := K)) (pv 5) (pe_un un_neg pe_int) (fun _ _ => rfl))) (blkOk_by (own := [("_law_button", 4)]) (N := ["_law_tree_here", "_law_buttons_here", "_law_scale_here", "_law_lots", "_law_button", "_law_odd", "_law_events_here", "_law_lot"]) (sc := defScope s_l_is_parted) (by decide +kernel)) (fun _ _ _ _ _ => (pg_name (i := 4) sc_l_is_parted.nd rfl (Or.inl rfl))) (fun _ _ _ _ _ => pts_nil) (fun _ _ _ _ _ => (pe_tup (pa_cons pe_str (pa_cons (pv 4) pa_nil))))) pa_nil)))
 (pss_one (ps_ret (pe_cmpR op_ne (pe_ix (ix_tupK (K := K)) (pe_pr G_run (hr.mono (by omega)) (pa_cons (pv 0) (pa_cons (pv 6) pa_nil))) (pe_un un_neg pe_int) (fun _ _ => rfl)) (pe_ix (ix_tupK (K := K)) (pe_pr G_run_scale (hr.mono (by omega)) (pa_cons (pv 2) (pa_cons (pv 6) pa_nil))) (pe_un un_neg pe_int) (fun _ _ => rfl)) (nomark _))))))))), ?_⟩
    have hbl := hpm.length_eq
    have hrl : rows.length ≤ 1000 := by
      have := hrp.length_eq
      rw [List.length_map] at this
      omega
    refine ⟨Nat.zero_le _, fun p0 n0 => ⟨le_line (by simp), fun L0 nL0 => ?_⟩⟩
    have m1 := same_upd n0 (.tup [])
    have m2 := same_upd nL0 (.lst [.ref p0])
    have s2 := m1.trans m2
    refine ⟨_, rfl, B, bs, rfl, SqL.of (s2 _ _ eB), fun so S hso _ nS => ?_⟩
    have m3 := same_upd nS (.lst (so.map V.int))
    have s3 := s2.trans m3
    have hsl := hso.length_eq
    refine ⟨S, rfl, ⟨_, SqL.of upd_same⟩, for_list (K := K) (a := S) (xs := so.map V.int) (fun i σ H1 => Same (upd (upd (upd H p0 (.tup [])) L0 (.lst [.ref p0])) S (.lst (so.map V.int))) H1 ∧ ∃ La us y4, σ = [some v, some (.ref B), some u, some (.ref La), y4, none, none, none] ∧ H1 La = some (.lst us) ∧ F2 (IT H1) ((so.take i).foldl grow [[]]) us)
      ⟨Same.refl _, L0, [.ref p0], none, rfl, m3 _ _ upd_same, .cons ⟨p0, rfl, m3 _ _ (m2 _ _ upd_same)⟩ .nil⟩ (fun i σ H1 _ h => SqL.of (h.1 _ _ upd_same)) (fun i x σ H1 hx h => ?_) (fun σ H1 h => ?_)⟩
    · obtain ⟨s4, La, us, y4, rfl, eL, hU⟩ := h
      obtain ⟨b, hb, rfl⟩ := int_get hx
      have hi := (List.getElem?_eq_some_iff.mp hb).1
      have hll := lots_len_from (so.take i) [[]] 0 (fun x hx => by simp at hx; subst hx; simp)
      have hul := hU.len
      have h10 : (so.take i).length ≤ 10 := by rw [List.length_take]; omega
      have hp := pow_le h10
      have hlc : us.length ≤ 1024 := by
        rw [← hul, hll.1]
        simpa using hp
      refine ⟨_, rfl, _, rfl, La, rfl, ⟨_, SqL.of eL⟩, fun C nC => lc_list (K := K) (a := La) (xs := us) (fun j H2 => Same H1 H2 ∧ ∃ acc, H2 C = some (.lst acc) ∧ F2 (IT H2) ((((so.take i).foldl grow [[]]).take j).map (· ++ [b])) acc) ⟨same_upd nC _, [], upd_same, .nil⟩ (fun j H2 _ h => SqL.of (h.1 _ _ eL)) (fun j x H2 hx2 h => ?_) (fun H2 h => ?_)⟩
      · obtain ⟨s5, acc, eC, hA⟩ := h
        obtain ⟨ns, hns, a, rfl, ea⟩ := hU.get hx2
        have hj := (List.getElem?_eq_some_iff.mp hns).1
        have hal := hA.len
        rw [List.length_map, List.length_take] at hal
        have hnl : ns.length ≤ 10 := by
          have := hll.2 ns (List.mem_of_getElem? hns)
          omega
        have fin : ∀ (H3 : Hp) (o : V), Same H2 H3 → IT H3 (ns ++ [b]) o → ∃ acc, H3 C = some (.lst acc) ∧ acc.length < sizeLine ∧ Same H1 (upd H3 C (.lst (acc ++ [o]))) ∧ ∃ acc', upd H3 C (.lst (acc ++ [o])) C = some (.lst acc') ∧ F2 (IT (upd H3 C (.lst (acc ++ [o])))) ((((so.take i).foldl grow [[]]).take (j + 1)).map (· ++ [b])) acc' := fun H3 o s6 ho => by
          have eC3 := s6 _ _ eC
          refine ⟨acc, eC3, lt_line (by omega), (s5.trans s6).upd nC _, acc ++ [o], upd_same, ?_⟩
          rw [List.take_add_one, hns, List.map_append]
          exact (its_mono (s6.T.trans (SameT.lst eC3 _)) hA).snoc (ho.mono (SameT.lst eC3 _))
        refine ⟨rfl, _, rfl, _, rfl, le_line (by simp), fun c nc => ?_⟩
        have m6 := same_upd nc (.tup [.int b])
        refine ⟨a, c, _, _, rfl, rfl, SqT.of (m6 _ _ (s5 _ _ ea)), SqT.of upd_same, le_line (by rw [List.length_map]; simp; omega), fun z => ?_, fun _ z => (nomatch z), fun _ _ p np => ?_⟩
        · have : ns = [] := by simpa using z
          subst this
          exact fin _ _ m6 ⟨c, rfl, upd_same⟩
        · have m7 := same_upd np (.tup (ns.map V.int ++ [.int b]))
          refine fin _ _ (m6.trans m7) ⟨p, rfl, ?_⟩
          rw [upd_same, List.map_append]
          rfl
      · obtain ⟨s5, acc, eC, hA⟩ := h
        rw [← hul, List.take_length] at hA
        have hal := hA.len
        rw [List.length_map] at hal
        refine ⟨La, C, us, acc, rfl, rfl, s5 _ _ eL, eC, le_line (by omega), fun p np => ?_⟩
        have m6 := same_upd np (.lst (us ++ acc))
        refine ⟨(s4.trans s5).trans m6, p, us ++ acc, _, rfl, upd_same, ?_⟩
        rw [foldl_snoc_take hb]
        exact (its_mono (s5.T.trans m6.T) hU).app (its_mono m6.T hA)
    · obtain ⟨s4, La, us, y4, rfl, eL, hU⟩ := h
      rw [List.length_map, List.take_length] at hU
      change F2 (IT H1) (K94.lots so) us at hU
      have hll := lots_len_from so [[]] 0 (fun x hx => by simp at hx; subst hx; simp)
      have hul := hU.len
      have hlc : us.length ≤ 1024 := by
        have hp := pow_le (n := so.length) (by omega)
        rw [← hul]
        show ((so.foldl grow [[]]).length) ≤ 1024
        rw [hll.1]
        simpa using hp
      have s14 : Same H H1 := s3.trans s4
      have hxl : ∀ x ∈ K94.lots so, x.length ≤ 10 := fun x hx => by
        have := hll.2 x hx
        omega
      refine ⟨_, rfl, La, rfl, ⟨_, SqL.of eL⟩, fun C nC => lc_list (K := K) (a := La) (xs := us) (fun j H2 => Same H1 H2 ∧ ∃ acc, H2 C = some (.lst acc) ∧ F2 (IT H2) (((K94.lots so).take j).filter (odd t rows bound)) acc) ⟨same_upd nC _, [], upd_same, .nil⟩ (fun j H2 _ h => SqL.of (h.1 _ _ eL)) (fun j x H2 hx2 h => ?_) (fun H2 h => ?_)⟩
      · obtain ⟨s5, acc, eC, hA⟩ := h
        obtain ⟨ns, hns, a, rfl, ea⟩ := hU.get hx2
        have hj := (List.getElem?_eq_some_iff.mp hns).1
        have hal := hA.len
        have hfl := List.length_filter_le (odd t rows bound) ((K94.lots so).take j)
        rw [List.length_take] at hfl
        have ea2 := s5 _ _ ea
        have s15 := s14.trans s5
        refine ⟨rfl, _, rfl, _, rfl, t, v, .ref a, ns, rfl, hT.mono s15.T, hok, hd, by omega, ⟨a, rfl, ea2⟩, fun H3 s6 => ⟨_, rfl, _, rfl, rows, bound, u, .ref a, ns, rfl, hS.mono (s15.trans s6).T, hrl, ⟨a, rfl, s6 _ _ ea2⟩, fun H4 s7 => ⟨rfl, _, rfl, ?_⟩⟩⟩
        have s67 := s6.trans s7
        have hsp : ((K94.lots so).take (j + 1)).filter (odd t rows bound) = ((K94.lots so).take j).filter (odd t rows bound) ++ (if odd t rows bound ns = true then [ns] else []) := by
          rw [List.take_add_one, hns, List.filter_append]
          congr 1
          show [ns].filter (odd t rows bound) = _
          rw [List.filter_cons]
          rfl
        rw [hsp]
        show if odd t rows bound ns = true then _ else _
        refine ite2 (fun ho => ?_) fun ho => ?_
        · rw [if_pos ho]
          have eC4 := s67 _ _ eC
          refine ⟨_, rfl, acc, eC4, lt_line (by omega), (s5.trans s67).upd nC _, acc ++ [.ref a], upd_same, ?_⟩
          exact (its_mono (s67.T.trans (SameT.lst eC4 _)) hA).snoc ⟨a, rfl, (SameT.lst eC4 _) _ _ (s67 _ _ ea2)⟩
        · rw [if_neg ho, List.append_nil]
          exact ⟨s5.trans s67, acc, s67 _ _ eC, its_mono s67.T hA⟩
      · obtain ⟨s5, acc, eC, hA⟩ := h
        rw [← hul, List.take_length] at hA
        have s15 := s14.trans s5
        obtain ⟨xo, hxo, hne⟩ := parted (rows := rows) (bound := bound) (bs := so) htr (fun b hb => hso.mem_iff.mpr (hpm.mem_iff.mp hb)) (fun p hp => hso.mem_iff.mpr (hrp.mem_iff.mp (List.mem_map_of_mem hp)))
        have hxf : xo ∈ (K94.lots so).filter (odd t rows bound) := List.mem_filter.mpr ⟨hxo, odd_ne.mpr hne⟩
        have hal := hA.len
        have hfl := List.length_filter_le (odd t rows bound) (K94.lots so)
        generalize hfs : (K94.lots so).filter (odd t rows bound) = fs at *
        have hfo : ∀ x ∈ fs, x ∈ K94.lots so ∧ odd t rows bound x = true := fun x hx => by
          rw [← hfs] at hx
          exact List.mem_filter.mp hx
        have hpos : 0 < fs.length := List.length_pos_of_mem hxf
        have hae : acc.isEmpty = false := by
          cases acc with
          | nil =>
            have h0 : fs.length = 0 := hal
            omega
          | cons _ _ => rfl
        refine ⟨_, rfl, Nat.zero_le _, fun z nz => ⟨C, z, acc, rfl, rfl, SqL.of (same_upd nz _ _ _ eC), SqL.of upd_same, DatL.lots (its_mono (same_upd nz (.lst [])).T hA), _, rfl, ?_⟩⟩
        rw [hae]
        have m6 := same_upd nz (.lst [])
        have eC6 := m6 _ _ eC
        obtain ⟨x0, hx0⟩ : ∃ x0, acc[0]? = some x0 := ⟨_, List.getElem?_eq_getElem (by omega)⟩
        obtain ⟨f0, hf0, a0, rfl, ea0⟩ := hA.get hx0
        have hn0 : f0 ≠ [] := fun z => by
          have := (hfo f0 (List.mem_of_getElem? hf0)).2
          rw [z, odd_nil hok hbd] at this
          cases this
        have he0 : (f0.map V.int).isEmpty = false := by
          cases f0 with
          | nil => exact absurd rfl hn0
          | cons _ _ => rfl
        refine iteF ⟨_, rfl, C, acc, 0, .ref a0, rfl, rfl, SqL.of eC6, atI_nat (j := 0) hx0, Nat.zero_le _, fun z2 nz2 => ?_⟩
        have m7 := same_upd nz2 (.tup [])
        have eC7 := m7 _ _ eC6
        refine ⟨a0, z2, _, rfl, rfl, SqT.of (m7 _ _ (m6 _ _ ea0)), SqT.of upd_same, DatL.ints f0, _, rfl, ?_⟩
        rw [he0]
        refine iteF (iteF ?_)
        have s17 := s15.trans (m6.trans m7)
        obtain ⟨xl, hxl1⟩ : ∃ xl, acc[acc.length - 1]? = some xl := ⟨_, List.getElem?_eq_getElem (by omega)⟩
        obtain ⟨fl, hfl1, al, rfl, eal⟩ := hA.get hxl1
        obtain ⟨hfin, hfodd⟩ := hfo fl (List.mem_of_getElem? hfl1)
        have hnl : fl ≠ [] := fun z => by
          rw [z, odd_nil hok hbd] at hfodd
          cases hfodd
        have hfll := hxl fl hfin
        have hsub : ∀ b ∈ fl, b ∈ bs := fun b hb => hso.mem_iff.mp (lots_sub hfin b hb)
        have eal7 := m7 _ _ (m6 _ _ eal)
        refine ⟨_, rfl, 1, rfl, C, acc, -1, .ref al, rfl, rfl, SqL.of eC7, last_get hxl1, al, rfl, ⟨_, SqT.of eal7⟩, fun G nG => lc_tup (K := K) (a := al) (xs := fl.map V.int) (fun i H8 => Same (upd (upd H2 z (.lst [])) z2 (.tup [])) H8 ∧ ∃ ac, H8 G = some (.lst ac) ∧ F2 (EvAt H8) (press (fl.take i)) ac) ⟨same_upd nG _, [], upd_same, .nil⟩ (fun i H8 _ h => SqT.of (h.1 _ _ eal7)) (fun i x H8 hx3 h => ?_) (fun H8 h => ?_)⟩
        · obtain ⟨s8, ac, eG, hB⟩ := h
          obtain ⟨b, hb, rfl⟩ := int_get hx3
          have hbl := hB.len
          rw [press, List.length_map, List.length_take] at hbl
          refine ⟨rfl, _, rfl, le_line (by simp), fun p np => ?_⟩
          have m9 := same_upd np (.tup [.str "press", .int b])
          have eG9 := m9 _ _ eG
          refine ⟨ac, eG9, lt_line (by omega), (s8.trans m9).upd nG _, ac ++ [.ref p], upd_same, ?_⟩
          rw [press, List.take_add_one, hb, List.map_append]
          exact (evs_mono (m9.T.trans (SameT.lst eG9 _)) hB).snoc ⟨p, rfl, (SameT.lst eG9 _) _ _ upd_same⟩
        · obtain ⟨s8, ac, eG, hB⟩ := h
          rw [List.length_map, List.take_length] at hB
          refine ⟨G, ac, rfl, .inl ⟨SqL.of eG, fun o1 n1 => ?_⟩⟩
          have m9 := same_upd n1 (.tup ac)
          have s19 := s17.trans (s8.trans m9)
          have hE : EvsAt (upd H8 o1 (.tup ac)) (press fl) (.ref o1) := ⟨o1, ac, rfl, upd_same, evs_mono m9.T hB⟩
          have hpl : (press fl).length = fl.length := by rw [press, List.length_map]
          have hpne : press fl ≠ [] := fun z => by
            rw [z] at hpl
            exact hnl (List.eq_nil_of_length_eq_zero hpl.symm)
          have hlast := sts_last noLot (press fl) hpne
          rw [press_mem] at hlast
          have hpin : ∀ e ∈ press fl, e.2 ∈ fl := fun e he => by
            obtain ⟨b, hb, rfl⟩ := List.mem_map.mp he
            exact hb
          have hget : ∀ f : Lot → Bool, atI (((sts noLot (press fl)).map f).map V.bl) (-1) = some (V.bl (f (mem fl))) := fun f => by
            refine last_get ?_
            rw [List.length_map, List.length_map, sts_length, List.getElem?_map, List.getElem?_map, hlast]
            rfl
          refine ⟨_, rfl, _, rfl, t, press fl, v, .ref o1, rfl, hT.mono s19.T, hok, hd, by omega, hE, fun e he => hpm.mem_iff.mpr (hsub _ (hpin e he)), by omega, fun H10 b1 s10 hb1 => ?_⟩
          obtain ⟨r1, rfl, er1⟩ := hb1
          refine ⟨1, rfl, r1, _, -1, _, rfl, rfl, SqT.of er1, hget fun L => goes L t, ?_⟩
          refine ⟨_, rfl, _, rfl, rows, bound, press fl, u, .ref o1, rfl, hS.mono (s19.trans s10).T, hrl, hE.mono s10.T, fun e he => hrp.mem_iff.mpr (hsub _ (hpin e he)), by omega, fun H11 b2 s11 hb2 => ?_⟩
          obtain ⟨r2, rfl, er2⟩ := hb2
          refine ⟨1, rfl, r2, _, -1, _, rfl, rfl, SqT.of er2, hget fun L => decide (bound ≤ sumw L rows), rfl, ?_⟩
          show Q (.bl (odd t rows bound fl)) H11
          rw [hfodd]
          exact q _ ((s19.trans s10).trans s11)
end
end K94

/-! K94D15: the law. -/
namespace K94
open PySem L2 PySem.Spec PyProof.Rows
def spWhole (K : PySem.W.Frag) : Sp := fun vs H Q _ => ∃ (a : Addr) (ns : List Int), vs = [.ref a] ∧ SqL K H a (ns.map V.int) ∧ ∀ H', Q (.bl true) H'
/-- two pairs in one trip: no nest -/
def forky : Tree := .trip 1 [.trip 2 [.btn 0, .btn 1], .trip 2 [.btn 2, .btn 3]]
theorem forky_trade : Trade forky := by
  refine ⟨mem [0, 1], mem [2, 3], mem [0, 2], mem [1, 3], ?_, ?_, ?_, ?_, fun b => ?_⟩
  · simp [forky, goes, cnt, mem]
  · simp [forky, goes, cnt, mem]
  · simp [forky, goes, cnt, mem]
  · simp [forky, goes, cnt, mem]
  · by_cases h0 : b = 0
    · subst h0
      rfl
    · by_cases h1 : b = 1
      · subst h1
        rfl
      · by_cases h2 : b = 2
        · subst h2
          rfl
        · by_cases h3 : b = 3
          · subst h3
            rfl
          · simp [mem, bn, h0, h1, h2, h3]
theorem forky_ok : Ok forky := by simp [forky, Ok, OkL]
theorem forky_not {t : Tree} (h : ToldOf forky t) : ¬ Nest t := fun hn => nest_no_trade h.ok hn (forky_trade.same h.goes)
theorem pick12 {i : Nat} {x : V} (h : ([V.int 1, .int 2])[i]? = some x) : ∃ k : Int, x = .int k ∧ 1 ≤ k ∧ k ≤ 2 := by
  match i, h with
  | 0, h => exact ⟨1, (Option.some.inj h).symm, by decide, by decide⟩
  | 1, h => exact ⟨2, (Option.some.inj h).symm, by decide, by decide⟩
theorem pick_most {i : Nat} {x : V} (h : ([V.int 12, .int 100])[i]? = some x) : ∃ k : Nat, x = .int (k : Nat) ∧ 12 ≤ k ∧ k ≤ 100 := by
  match i, h with
  | 0, h => exact ⟨12, (Option.some.inj h).symm, by decide, by decide⟩
  | 1, h => exact ⟨100, (Option.some.inj h).symm, by decide, by decide⟩
section
variable {mg : Str → Option Value} {K : PySem.W.Frag} {P : Program} {w : World} {base : Heap}
theorem pr_law (T : Txt K mg) : PrG P w K mg base "law" ["_law_script"] 25 (spWhole K) := by
  have G_l_deck := pr_deck (P := P) (w := w) (base := base) T
  have G_l_draw := pr_draw (P := P) (w := w) (base := base) T
  have G_l_pick := pr_pick (P := P) (w := w) (base := base) T
  have G_l_buttons := pr_buttons (P := P) (w := w) (base := base) T
  have G_l_nest := pr_lnest (P := P) (w := w) (base := base) T
  have G_l_tree := pr_ltree (P := P) (w := w) (base := base) T 4
  have G_l_events := pr_events (P := P) (w := w) (base := base) T
  have G_l_scale := pr_lscale (P := P) (w := w) (base := base) T
  have G_l_is_turned := pr_is_turned (P := P) (w := w) (base := base) T 12
  have G_l_is_parted := pr_is_parted (P := P) (w := w) (base := base) T 12
  have G_is_nest := pr_is_nest (P := P) (w := w) (base := base) T 12
  have G_scale_of := pr_scale_of (P := P) (w := w) (base := base) T 12
  have G_run := pr_run (P := P) (w := w) (base := base) T 12
  have G_run_scale := pr_run_scale (P := P) (w := w) (base := base) T
  refine T.law.prG sc_law (fun _ _ _ _ _ _ us hl => match us, hl with | [_], _ => rfl) (fun vs H Q E h => ?_) (fun cdv A outer s H vs Q E hgd hr h => ?_)
  · obtain ⟨a, ns, rfl, _⟩ := h
    rfl
  · obtain ⟨a, ns, rfl, hS, q⟩ := h
    have hu64 := hr.units
    refine ⟨_, (pss_cons (ps_set (i := 1) sc_law.nd rfl (Or.inl rfl) (pe_pr G_l_deck (hr.mono (by omega)) (pa_cons (pv 0) pa_nil)))
 (pss_cons (ps_for PassesOwn.never rfl (pi_range1 (by rfl) T.m_range (pa_cons pe_int pa_nil)) (pg_name (i := 2) sc_law.nd rfl (Or.inl rfl)) (pss_cons (ps_set (i := 3) sc_law.nd rfl (Or.inl rfl) (pe_pr G_l_buttons (hr.mono (by omega)) (pa_cons (pv 1) (pa_cons (pe_op op_add pe_int (pe_pr G_l_draw (hr.mono (by omega)) (pa_cons (pv 1) (pa_cons pe_int pa_nil)))) (pa_cons (pe_pr G_l_pick (hr.mono (by omega)) (pa_cons (pv 1) (pa_cons (pe_lst (pa_cons pe_int (pa_cons pe_int pa_nil))) pa_nil))) pa_nil)))))
 (pss_cons (ps_set (i := 4) sc_law.nd rfl (Or.inl rfl) (pe_pr G_l_nest (hr.mono (by omega)) (pa_cons (pv 1) (pa_cons (pv 3) pa_nil))))
 (pss_cons (ps_set (i := 5) sc_law.nd rfl (Or.inl rfl) (pe_pr G_l_events (hr.mono (by omega)) (pa_cons (pv 1) (pa_cons (pv 3) (pa_cons (pe_pr G_l_draw (hr.mono (by omega)) (pa_cons (pv 1) (pa_cons pe_int pa_nil))) pa_nil)))))
 (pss_cons (ps_if (PW.pt (pw_or (pt_not (pt_val (pe_pr G_is_nest (hr.mono (by omega)) (pa_cons (pv 4) pa_nil)))) (pw_or1 (pt_cmpR op_ne (pe_callB (call_reprB hgd hu64) (by rfl) T.m_repr b_repr (pa_cons (pe_pr G_run (hr.mono (by omega)) (pa_cons (pv 4) (pa_cons (pv 5) pa_nil))) pa_nil)) (pe_callB (call_reprB hgd hu64) (by rfl) T.m_repr b_repr (pa_cons (pe_pr G_run_scale (hr.mono (by omega)) (pa_cons (pe_pr G_scale_of (hr.mono (by omega)) (pa_cons (pv 4) pa_nil)) (pa_cons (pv 5) pa_nil))) pa_nil)) (nomark _))))) (pss_one (ps_ret pe_bl)) pss_nil)
 (pss_one (ps_if (pt_not (pt_val (pe_prG G_l_is_turned hgd (hr.mono (by omega)) (pa_cons (pv 4) (pa_cons (pv 3) (pa_cons (pv 5) pa_nil)))))) (pss_one (ps_ret pe_bl)) pss_nil)))))))
 (pss_cons (ps_for PassesOwn.never rfl (pi_range1 (by rfl) T.m_range (pa_cons pe_int pa_nil)) (pg_name (i := 2) sc_law.nd rfl (Or.inl rfl)) (pss_cons (ps_set (i := 3) sc_law.nd rfl (Or.inl rfl) (pe_pr G_l_buttons (hr.mono (by omega)) (pa_cons (pv 1) (pa_cons (pe_op op_add pe_int (pe_pr G_l_draw (hr.mono (by omega)) (pa_cons (pv 1) (pa_cons pe_int pa_nil)))) (pa_cons pe_int pa_nil)))))
 (pss_cons (ps_set (i := 6) sc_law.nd rfl (Or.inl rfl) (pe_op op_add pe_int (pe_pr G_l_draw (hr.mono (by omega)) (pa_cons (pv 1) (pa_cons (pe_op op_sub (pe_callB (call_lenK (K := K)) (by rfl) T.m_len b_len (pa_cons (pv 3) pa_nil)) pe_int) pa_nil)))))
 (pss_cons (ps_set (i := 7) sc_law.nd rfl (Or.inl rfl) (pe_lst (pa_cons (pe_tup (pa_cons (pe_pr G_l_pick (hr.mono (by omega)) (pa_cons (pv 1) (pa_cons (pe_lst (pa_cons pe_int (pa_cons pe_int pa_nil))) pa_nil))) (pa_cons (pe_callTy call_tuple_of (by rfl) T.m_tuple b_tuple (pa_cons (pe_slice sl_list (pv 3) po_none (po_some (pv 6))) pa_nil)) pa_nil))) (pa_cons (pe_tup (pa_cons (pe_pr G_l_pick (hr.mono (by omega)) (pa_cons (pv 1) (pa_cons (pe_lst (pa_cons pe_int (pa_cons pe_int pa_nil))) pa_nil))) (pa_cons (pe_callTy call_tuple_of (by rfl) T.m_tuple b_tuple (pa_cons (pe_slice sl_list (pv 3) (po_some (pv 6)) po_none) pa_nil)) pa_nil))) pa_nil))))
 (C8.pss_cut (ps_set (i := 4) sc_law.nd rfl (Or.inl rfl) (pe_ifExp (pt_cmpR op_eq (pe_op op_mod (pv 2) pe_int) pe_int (nomark _)) (pe_tup (pa_cons (pe_pr G_l_pick (hr.mono (by omega)) (pa_cons (pv 1) (pa_cons (pe_lst (pa_cons pe_int (pa_cons pe_int pa_nil))) pa_nil))) (pa_cons (pe_callTy call_tuple_of (by rfl) T.m_tuple b_tuple (pa_cons (pv 7) pa_nil)) pa_nil))) (pe_pr G_l_tree (hr.mono (by omega)) (pa_cons (pv 1) (pa_cons (pv 3) (pa_cons pe_int pa_nil))))))
 (pss_cons (ps_set (i := 5) sc_law.nd rfl (Or.inl rfl) (pe_pr G_l_events (hr.mono (by omega)) (pa_cons (pv 1) (pa_cons (pv 3) (pa_cons (pe_pr G_l_draw (hr.mono (by omega)) (pa_cons (pv 1) (pa_cons pe_int pa_nil))) pa_nil)))))
 (pss_cons (ps_if (pt_not (pt_val (pe_prG G_l_is_turned hgd (hr.mono (by omega)) (pa_cons (pv 4) (pa_cons (pv 3) (pa_cons (pv 5) pa_nil)))))) (pss_one (ps_ret pe_bl)) pss_nil)
 (pss_one (ps_if (PW.pt (pw_and (pt_not (pt_val (pe_pr G_is_nest (hr.mono (by omega)) (pa_cons (pv 4) pa_nil)))) (pw_and1 (pt_not (pt_val (pe_pr G_l_is_parted (hr.mono (by omega)) (pa_cons (pv 4) (pa_cons (pv 3) (pa_cons (pe_pr G_l_scale (hr.mono (by omega)) (pa_cons (pv 1) (pa_cons (pv 3) (pa_cons pe_int pa_nil)))) pa_nil))))))))) (pss_one (ps_ret pe_bl)) pss_nil)))))))))
 (pss_one (ps_ret (pe_not (pe_pr G_is_nest (hr.mono (by omega)) (pa_cons (pe_tup (pa_cons pe_int (pa_cons (pe_tup (pa_cons (pe_tup (pa_cons pe_int (pa_cons (pe_tup (pa_cons pe_int (pa_cons pe_int pa_nil))) pa_nil))) (pa_cons (pe_tup (pa_cons pe_int (pa_cons (pe_tup (pa_cons pe_int (pa_cons pe_int pa_nil))) pa_nil))) pa_nil))) pa_nil))) pa_nil)))))))), ?_⟩
    refine ⟨_, rfl, a, ns, rfl, hS, fun H1 d L d1 => ?_⟩
    refine ⟨4, rfl, by decide, by decide, for_range (lo := 0) (n := (4 : Int).toNat) (fun i σ H2 => Dk d L H2 ∧ ∃ y2 y3 y4 y5, σ = [some (.ref a), some (.ref d), y2, y3, y4, y5, none, none]) ⟨d1, none, none, none, none, rfl⟩ (fun i σ H2 hi h => ?_) (fun σ H2 h => ?_)⟩
    · obtain ⟨d2, y2, y3, y4, y5, rfl⟩ := h
      refine ⟨_, rfl, _, rfl, d, L, 10, rfl, d2, by decide, by decide, fun H3 r f3 d3 r0 r1 => ⟨_, _, rfl, rfl, _, rfl, le_line (by simp), fun z nz => ?_⟩⟩
      have m4 := same_upd nz (.lst [.int 12, .int 100])
      refine ⟨d, L, z, _, rfl, d3.same m4, upd_same, d3.newd nz, d3.newL nz, by simp, by simp, fun H4 i4 x f4 d4 hx => ?_⟩
      obtain ⟨m, rfl, hm1, hm2⟩ := pick_most hx
      obtain ⟨k, hk⟩ : ∃ k : Nat, 1 + r = (k : Int) := ⟨(1 + r).toNat, by omega⟩
      have ek : ([V.ref d, .int (1 + r), .int (m : Nat)] : List V) = [.ref d, .int (k : Nat), .int (m : Nat)] := by rw [hk]
      refine ⟨d, L, k, m, ek, d4, by omega, by omega, fun H5 B bs f5 d5 _ hB1 hB2 eB hbl hnd => ?_⟩
      refine ⟨_, rfl, _, rfl, d, L, B, bs, rfl, d5, eB, hB1, hB2, by omega, by omega, fun H6 t u f6 d6 hT hN hok hpm hdep => ?_⟩
      have eB6 := f6 _ _ hB1 hB2 eB
      have hbl2 := hpm.length_eq
      refine ⟨_, rfl, _, rfl, _, rfl, d, L, 31, rfl, d6, by decide, by decide, fun H7 r7 f7 d7 r70 r71 => ?_⟩
      obtain ⟨n, hn⟩ : ∃ n : Nat, r7 = (n : Int) := ⟨r7.toNat, by omega⟩
      subst hn
      have eB7 := f7 _ _ hB1 hB2 eB6
      have hT7 := hT.mono (f7.T d6)
      refine ⟨d, L, B, bs, n, rfl, d7, eB7, hB1, hB2, by omega, by omega, by omega, fun H8 es ev f8 d8 hE hel hein => ?_⟩
      have eB8 := f8 _ _ hB1 hB2 eB7
      have hT8 := hT7.mono (f8.T d7)
      have hin2 : ∀ e ∈ es, e.2 ∈ btns t := fun e he => hpm.mem_iff.mpr (hein e he)
      refine ⟨_, rfl, t, u, rfl, hT8, hok, by omega, by omega, by omega, fun H9 b t' s9 hO hb => ?_⟩
      have hbt : b = true := hb.mpr (hO.nest hN)
      subst hbt
      refine ⟨_, rfl, iteF ⟨_, rfl, _, rfl, t, es, u, ev, rfl, hT8.mono s9.T, hok, by omega, by omega, hE.mono s9.T, hin2, by omega, fun H10 b1 s10 hb1 => ?_⟩⟩
      obtain ⟨r1, rfl, er1⟩ := hb1
      have s910 := s9.trans s10
      refine ⟨r1, _, rfl, SqT.of er1, by rw [List.length_map, sts_length]; omega, _, rfl, t, u, rfl, hT8.mono s910.T, hok, by omega, by omega, by omega, hN, fun H11 t2 rows sc s11 hO2 hpm2 hS2 => ?_⟩
      have s911 := s910.trans s11
      have hfst : (rows.map Prod.fst).Perm (btns t) := ((hpm2.map Prod.fst).trans (swz_nest (hO2.nest hN))).trans hO2.btns
      have hrl : rows.length ≤ 1000 := by
        have := hfst.length_eq
        rw [List.length_map] at this
        omega
      refine ⟨_, rfl, rows, _, es, sc, ev, rfl, hS2, hrl, hE.mono s911.T, fun e he => hfst.mem_iff.mpr (hin2 e he), by omega, fun H12 b2 s12 hb2 => ?_⟩
      obtain ⟨r2, rfl, er2⟩ := hb2
      have eqs : ((sts noLot es).map fun L => goes L t) = (sts noLot es).map fun L => decide ((pr (rowsT t2)).1 ≤ sumw L rows) := by
        refine List.map_congr_left fun M _ => ?_
        rw [← hO2.goes M, scale_nest hO2.ok (hO2.nest hN) M, sumw_perm M hpm2]
      refine ⟨r2, _, rfl, SqT.of er2, by rw [List.length_map, sts_length]; omega, rfl, _, rfl, ?_⟩
      rw [← eqs, decide_eq_true rfl]
      have s812 := s911.trans s12
      refine iteF ⟨_, rfl, _, rfl, _, rfl, t, u, B, bs, es, ev, rfl, hT8.mono s812.T, hok, by omega, s812 _ _ eB8, hpm, by omega, by omega, hE.mono s812.T, hein, by omega, fun H13 s13 => ⟨_, rfl, iteF ⟨d8.same (s812.trans s13), _, _, _, _, rfl⟩⟩⟩
    · obtain ⟨d2, y2, y3, y4, y5, rfl⟩ := h
      refine ⟨4, rfl, by decide, by decide, for_range (lo := 0) (n := (4 : Int).toNat) (fun i σ H2 => Dk d L H2 ∧ ∃ y2 y3 y4 y5 y6 y7, σ = [some (.ref a), some (.ref d), y2, y3, y4, y5, y6, y7]) ⟨d2, y2, y3, y4, y5, none, none, rfl⟩ (fun i σ H3 hi h => ?_) (fun σ H3 h => ?_)⟩
      · obtain ⟨d3, y2, y3, y4, y5, y6, y7, rfl⟩ := h
        refine ⟨_, rfl, _, rfl, d, L, 3, rfl, d3, by decide, by decide, fun H4 r f4 d4 r0 r1 => ⟨_, _, rfl, rfl, ?_⟩⟩
        obtain ⟨k, hk⟩ : ∃ k : Nat, 4 + r = (k : Int) := ⟨(4 + r).toNat, by omega⟩
        have ek : ([V.ref d, .int (4 + r), .int 20] : List V) = [.ref d, .int (k : Nat), .int ((20 : Nat) : Int)] := by rw [hk]; rfl
        refine ⟨d, L, k, 20, ek, d4, by omega, by omega, fun H5 B bs f5 d5 _ hB1 hB2 eB hbl hnd => ?_⟩
        refine ⟨_, rfl, _, rfl, B, _, rfl, .inl (SqL.of eB), _, _, rfl, rfl, d, L, _, rfl, d5, by rw [List.length_map]; omega, by rw [List.length_map]; omega, fun H6 r6 f6 d6 r60 r61 => ⟨_, _, rfl, rfl, ?_⟩⟩
        rw [List.length_map] at r61
        obtain ⟨c, hc⟩ : ∃ c : Nat, 2 + r6 = (c : Int) := ⟨(2 + r6).toNat, by omega⟩
        have hc2 : (fun i j : Int => V.int (i + j)) 2 r6 = V.int (c : Int) := by show V.int (2 + r6) = _; rw [hc]
        rw [hc2]
        have eB6 := f6 _ _ hB1 hB2 eB
        refine ⟨_, rfl, le_line (by simp), fun z1 n1 => ?_⟩
        have m7 := same_upd n1 (.lst [.int 1, .int 2])
        refine ⟨d, L, z1, _, rfl, d6.same m7, upd_same, d6.newd n1, d6.newL n1, by simp, by simp, fun H8 i8 x8 f8 d8 hx8 => ?_⟩
        obtain ⟨k1, rfl, hk11, hk12⟩ := pick12 hx8
        have f68 : Fr d L H6 H8 := m7.fr.trans f8
        have eB8 := f68 _ _ hB1 hB2 eB6
        refine ⟨_, rfl, _, rfl, _, rfl, B, _, rfl, SqL.of eB8, fun p9 n9 => ?_⟩
        rw [cutV_take (by rw [List.length_map]; omega), ← List.map_take]
        have m9 := same_upd n9 (.lst ((bs.take c).map V.int))
        refine ⟨p9, _, rfl, .inl ⟨SqL.of upd_same, fun q9 nq9 => ⟨le_line (by simp), fun t9 nt9 => ?_⟩⟩⟩
        have m10 := same_upd nq9 (.tup ((bs.take c).map V.int))
        have m11 := same_upd nt9 (.tup [.int k1, .ref q9])
        have s9 := (m9.trans m10).trans m11
        have d11 := d8.same s9
        have eB11 := s9 _ _ eB8
        have eq9 := m11 _ _ (upd_same : upd (upd H8 p9 (.lst ((bs.take c).map V.int))) q9 (.tup ((bs.take c).map V.int)) q9 = _)
        have et9 : upd (upd (upd H8 p9 (.lst ((bs.take c).map V.int))) q9 (.tup ((bs.take c).map V.int))) t9 (.tup [.int k1, .ref q9]) t9 = some (.tup [.int k1, .ref q9]) := upd_same
        generalize upd (upd (upd H8 p9 (.lst ((bs.take c).map V.int))) q9 (.tup ((bs.take c).map V.int))) t9 (.tup [.int k1, .ref q9]) = H11 at d11 eB11 eq9 et9
        refine ⟨_, rfl, le_line (by simp), fun z2 n2 => ?_⟩
        have m12 := same_upd n2 (.lst [.int 1, .int 2])
        refine ⟨d, L, z2, _, rfl, d11.same m12, upd_same, d11.newd n2, d11.newL n2, by simp, by simp, fun H13 i13 x13 f13 d13 hx13 => ?_⟩
        obtain ⟨k2, rfl, hk21, hk22⟩ := pick12 hx13
        have f1113 : Fr d L H11 H13 := m12.fr.trans f13
        have eB13 := f1113 _ _ hB1 hB2 eB11
        refine ⟨_, rfl, _, rfl, _, rfl, B, _, rfl, SqL.of eB13, fun p14 n14 => ?_⟩
        rw [cutV_drop (by rw [List.length_map]; omega), ← List.map_drop]
        have m14 := same_upd n14 (.lst ((bs.drop c).map V.int))
        refine ⟨p14, _, rfl, .inl ⟨SqL.of upd_same, fun q14 nq14 => ⟨le_line (by simp), fun t14 nt14 => ⟨le_line (by simp), fun W nW => ?_⟩⟩⟩⟩
        have m15 := same_upd nq14 (.tup ((bs.drop c).map V.int))
        have m16 := same_upd nt14 (.tup [.int k2, .ref q14])
        have m17 := same_upd nW (.lst [.ref t9, .ref t14])
        have s17 := ((m14.trans m15).trans m16).trans m17
        have d17 := d13.same s17
        have eB17 := s17 _ _ eB13
        have hdl : (bs.drop c).length = bs.length - c := by rw [List.length_drop]
        have htl : (bs.take c).length = c := by rw [List.length_take]; omega
        obtain ⟨g1, g2, g3, g4, g5⟩ := btn_facts (bs.take c)
        obtain ⟨h1, h2, h3, h4, h5⟩ := btn_facts (bs.drop c)
        have sT1 : SameT H11 _ := (f1113.T d11).trans s17.T
        have hX1 : TAt _ (.trip k1 ((bs.take c).map Tree.btn)) (.ref t9) := TAt.mk (sT1 _ _ et9) (sT1 _ _ eq9) (btn_pat _)
        have hX2 : TAt _ (.trip k2 ((bs.drop c).map Tree.btn)) (.ref t14) := TAt.mk (m17 _ _ upd_same) (m17 _ _ (m16 _ _ upd_same)) (btn_pat _)
        have eW : upd (upd (upd (upd H13 p14 (.lst ((bs.drop c).map V.int))) q14 (.tup ((bs.drop c).map V.int))) t14 (.tup [.int k2, .ref q14])) W (.lst [.ref t9, .ref t14]) W = some (.lst [.ref t9, .ref t14]) := upd_same
        generalize upd (upd (upd (upd H13 p14 (.lst ((bs.drop c).map V.int))) q14 (.tup ((bs.drop c).map V.int))) t14 (.tup [.int k2, .ref q14])) W (.lst [.ref t9, .ref t14]) = H17 at d17 eB17 hX1 hX2 eW
        refine ⟨fun σ H18 => ∃ t u y5 y6 y7, σ = [some (.ref a), some (.ref d), some (.int (0 + (i : Nat))), some (.ref B), some u, y5, y6, y7] ∧ Fr d L H17 H18 ∧ Dk d L H18 ∧ TAt H18 t u ∧ (btns t).Perm bs ∧ Ok t ∧ dep t ≤ 3, ?_, fun σ H18 hM => ?_⟩
        · refine ⟨_, rfl, _, _, rfl, rfl, (by decide : (0 : Int) < 2), rfl, _, rfl, ite2 (fun _ => ?_) fun _ => ?_⟩
          · refine ⟨_, rfl, le_line (by simp), fun z3 n3 => ?_⟩
            have m18 := same_upd n3 (.lst [.int 1, .int 2])
            refine ⟨d, L, z3, _, rfl, d17.same m18, upd_same, d17.newd n3, d17.newL n3, by simp, by simp, fun H19 i19 x19 f19 d19 hx19 => ?_⟩
            obtain ⟨k3, rfl, hk31, hk32⟩ := pick12 hx19
            have f1719 : Fr d L H17 H19 := m18.fr.trans f19
            have hWd : W ≠ d := d13.same ((m14.trans m15).trans m16) |>.newd nW
            have hWL : W ≠ L := d13.same ((m14.trans m15).trans m16) |>.newL nW
            have eW19 := f1719 _ _ hWd hWL eW
            refine ⟨_, rfl, W, _, rfl, .inl ⟨SqL.of eW19, fun q20 n20 => ⟨le_line (by simp), fun t20 nt20 => ?_⟩⟩⟩
            have m20 := same_upd n20 (.tup [.ref t9, .ref t14])
            have m21 := same_upd nt20 (.tup [.int k3, .ref q20])
            have sT2 : SameT H17 _ := (f1719.T d17).trans (m20.T.trans m21.T)
            refine ⟨.trip k3 [.trip k1 ((bs.take c).map Tree.btn), .trip k2 ((bs.drop c).map Tree.btn)], .ref t20, _, _, _, rfl, f1719.trans (m20.trans m21).fr, d19.same (m20.trans m21), TAt.mk upd_same (m21 _ _ upd_same) (.cons (hX1.mono sT2) (.cons (hX2.mono sT2) .nil)), ?_, ?_, ?_⟩
            · simp only [btns, btnsL, g5, h5, List.append_nil, List.take_append_drop]
              exact .refl _
            · refine ⟨hk31, by simpa using hk32, ⟨hk11, ?_, g1⟩, ⟨hk21, ?_, h1⟩, trivial⟩
              · rw [List.length_map, htl]
                omega
              · rw [List.length_map, hdl]
                omega
            · simp only [dep, depL, g4, h4]
              decide
          · refine ⟨_, rfl, _, rfl, d, L, B, bs, 3, rfl, by decide, d17, eB17, hB1, hB2, by omega, by omega, fun z => absurd z (by decide), fun H18 t u f18 d18 hT hbt hok hdp => ?_⟩
            exact ⟨t, u, _, _, _, rfl, f18, d18, hT, by rw [hbt], hok, hdp⟩
        · obtain ⟨t, u, y5, y6, y7, rfl, f18, d18, hT, hpm, hok, hdp⟩ := hM
          have eB18 := f18 _ _ hB1 hB2 eB17
          have hbl2 := hpm.length_eq
          refine ⟨_, rfl, _, rfl, _, rfl, d, L, 20, rfl, d18, by decide, by decide, fun H19 r7 f19 d19 r70 r71 => ?_⟩
          obtain ⟨n, hn⟩ : ∃ n : Nat, r7 = (n : Int) := ⟨r7.toNat, by omega⟩
          subst hn
          have eB19 := f19 _ _ hB1 hB2 eB18
          have hT19 := hT.mono (f19.T d18)
          refine ⟨d, L, B, bs, n, rfl, d19, eB19, hB1, hB2, by omega, by omega, by omega, fun H20 es ev f20 d20 hE hel hein => ?_⟩
          have eB20 := f20 _ _ hB1 hB2 eB19
          have hT20 := hT19.mono (f20.T d19)
          refine ⟨_, rfl, _, rfl, _, rfl, t, u, B, bs, es, ev, rfl, hT20, hok, by omega, eB20, hpm, by omega, by omega, hE, hein, by omega, fun H21 s21 => ⟨_, rfl, iteF ?_⟩⟩
          have d21 := d20.same s21
          have eB21 := s21 _ _ eB20
          have hT21 := hT20.mono s21.T
          refine ⟨_, rfl, t, u, rfl, hT21, hok, by omega, by omega, by omega, fun H22 b t' s22 hO hb => ⟨_, rfl, ?_⟩⟩
          have d22 := d21.same s22
          have eB22 := s22 _ _ eB21
          have hT22 := hT21.mono s22.T
          cases b with
          | true => exact iteF (iteF ⟨d22, _, _, _, _, _, _, rfl⟩)
          | false =>
            have hnn : ¬ Nest t' := fun z => by
              have := hb.mpr z
              cases this
            have htr := told_fork hO (hpm.symm.nodup hnd) hnn
            refine iteT ⟨_, rfl, _, rfl, _, rfl, _, rfl, d, L, B, bs, 4, rfl, d22, eB22, hB1, hB2, by omega, by omega, by decide, by decide, fun H23 rows bound sc f23 d23 hS2 hrp hbd => ?_⟩
            refine ⟨t, u, B, bs, rows, bound, sc, rfl, hT22.mono (f23.T d22), hok, by omega, f23 _ _ hB1 hB2 eB22, hpm, by omega, htr, hS2, hrp, hbd, fun H24 s24 => ⟨_, rfl, iteF ⟨d23.same s24, _, _, _, _, _, _, rfl⟩⟩⟩
      · obtain ⟨d3, z2, z3, z4, z5, z6, z7, rfl⟩ := h
        refine ⟨le_line (by simp), fun p1 n1 => ⟨le_line (by simp), fun p2 n2 => ⟨le_line (by simp), fun p3 n3 => ⟨le_line (by simp), fun p4 n4 => ⟨le_line (by simp), fun p5 n5 => ⟨le_line (by simp), fun p6 n6 => ?_⟩⟩⟩⟩⟩⟩
        have m1 := same_upd n1 (.tup [.int 0, .int 1])
        have m2 := same_upd n2 (.tup [.int 2, .ref p1])
        have m3 := same_upd n3 (.tup [.int 2, .int 3])
        have m4 := same_upd n4 (.tup [.int 2, .ref p3])
        have m5 := same_upd n5 (.tup [.ref p2, .ref p4])
        have m6 := same_upd n6 (.tup [.int 1, .ref p5])
        refine ⟨forky, .ref p6, rfl, ?_, forky_ok, by decide, by decide, by decide, fun H7 b t' s7 hO hb => ?_⟩
        · refine TAt.mk upd_same (m6 _ _ upd_same) (.cons (TAt.mk (m6 _ _ (m5 _ _ (m4 _ _ (m3 _ _ upd_same)))) (m6 _ _ (m5 _ _ (m4 _ _ (m3 _ _ (m2 _ _ upd_same))))) (.cons rfl (.cons rfl .nil))) (.cons (TAt.mk (m6 _ _ (m5 _ _ upd_same)) (m6 _ _ (m5 _ _ (m4 _ _ upd_same))) (.cons rfl (.cons rfl .nil))) .nil))
        · cases b with
          | true => exact absurd (hb.mp rfl) (forky_not hO)
          | false => exact ⟨_, rfl, q H7⟩
end
end K94

/-! K94End: the head and the law, joined. -/
namespace K94
open PySem L2 PySem.Spec PyProof.Rows
theorem law_facts {P : Program} {w : World} {K : PySem.W.Frag} {h : Heap} {mg : Str → Option Value} {f : Addr} (X : K.In h) (G : h.Ns mainGlobals mg) (hfa : mg ("law" : Str) = some (.ref f)) (c : He.SaysD fas fns K) :
    ∀ base : Heap, K.In base → base.Ns mainGlobals mg → ∃ fd, FnG P w K mg base 25 f fd ["_law_script"] (spWhole K) ∧ ∀ (s : Shared) (u : Value), BindsTo s fd ⟨[u], []⟩ [("_law_script", u)] := fun base _ _ => by
  have L := pr_law (P := P) (w := w) (base := base) (txt_of X G c)
  obtain ⟨fd, F, _, hb⟩ := L.ex
  have e := hfa.symm.trans L.gl
  cases e
  exact ⟨fd, F, fun s u => hb s [u] rfl⟩
end K94
open PySem PySem.Calls PySem.W PyProof.Rows
theorem PySem.Challenge.cw_onescale_k94_whole_runs_of_nests_and_the_holds : PySem.Challenge.rw_onescale_k94_whole_runs_of_nests_and_the.Holds := by
  w_on; o_law
  refine HandSHeadRun.head_any (r := K94.R) (q := view (K94.R).prog [70]) (H := K94.hk) (ob := K94.ob) (M := 3000) (loose := K94.loose) (d := HandSHeadRun.topDef (K94.R).prog 70) (kwd := []) K94.ob_eq
    (by kernel_rfl) (fun s => by kernel_rfl) K94.head_run (by kernel_rfl) (by kernel_rfl) (by kernel_rfl) (by rfl) (by first | assumption | decide +kernel) (by decide +kernel) ⟨rfl, rfl, rfl, rfl, rfl, by decide +kernel⟩ ?hw ?hc
  case hw => w_witness2
  case hc =>
    refine K94.walk_G (l := PySem.Challenge.rw_onescale_k94_whole_runs_of_nests_and_the) (n := 63) (k := 25) (x := "_law_script") rfl (by decide) (by kernel_rfl) ⟨rfl, by decide, by decide⟩ ?F
    intro w mg fa h Y G hmg0
    obtain ⟨K, KX, c⟩ := Y
    have atLaw : mg ("law" : PySem.Str) = some (.ref fa) := by
      have e : (HandSHeadRun.topDef (K94.R).prog 70).name = ("law" : PySem.Str) := by kernel_rfl
      rw [← e]
      exact hmg0
    exact ⟨K, K94.spWhole K, KX, fun H a ns _ hS => ⟨a, ns, rfl, hS, fun _ => rfl⟩, K94.law_facts (P := (PySem.Challenge.rw_onescale_k94_whole_runs_of_nests_and_the).prog) (w := w) KX G atLaw c⟩

