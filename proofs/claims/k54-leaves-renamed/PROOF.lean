import PyProof.Rows.All
import Wide.All
import OpenK.AllK
import Wide.FinOn
import KE.KStateDown
import KE.KTupSum
import KE.KMathGC
import KE.KRevSl
import KE.GoesEnum
import KE.GoesZip
import KE.KSortRegAny
import HandS.ForMost
import HandS.Walk
import HandS.Wide
import HandS.Gcd
import HandS.TupAny
import HandS.TupMul
import HandS.TupLe
import HandS.SetFor
import HandS.Strs
import HandS.Conv
import HandS.SortOrd
import HandS.SortInts
import HandS.IsInst
import HandS.Style
import HandS.More
import HandS.Deep
import HandS.Defaults
import HandS.Head0
import HandS.Head1
import HandS.Head2
import HandS.Head3
import HandS.HeadEnd
import HandS.HeadHook1
import HandS.HeadHook2
import HandS.HeadHook3
import HandS.HeadHook4
import PySem.Challenge.RW_datedlines_k54_leaves_renamed
set_option Elab.async false
set_option linter.all false
set_option maxRecDepth 100000
set_option maxHeartbeats 0
namespace Dh
open PySem PySem.Spec PyProof.Rows L2
def top (i : Nat) : Stmt := PySem.Challenge.pw_datedlines_k54_leaves_renamed.main.body.getD i (.Pass ⟨0, 0, 0, 0⟩)
abbrev st_is_number : Stmt := top 13
abbrev st_made_share : Stmt := top 14
abbrev st_share : Stmt := top 15
abbrev st_minus : Stmt := top 16
abbrev st_times : Stmt := top 17
abbrev st_pairs_of : Stmt := top 18
abbrev st_is_pattern : Stmt := top 21
abbrev st_ways_of : Stmt := top 22
abbrev st_counts_of : Stmt := top 27
abbrev st_made_calendar : Stmt := top 28
abbrev st_want_places : Stmt := top 29
abbrev st_renamed : Stmt := top 30
abbrev st_want_leaf : Stmt := top 31
abbrev st_want_pair : Stmt := top 32
abbrev st_counts : Stmt := top 34
abbrev st_pair_chance : Stmt := top 36
abbrev st_first_days : Stmt := top 37
abbrev st_meeting : Stmt := top 38
abbrev st_with_newborn : Stmt := top 40
abbrev st_behind_row : Stmt := top 41
abbrev st_is_group : Stmt := top 42
abbrev st_is_row : Stmt := top 43
abbrev st_first_bad : Stmt := top 44
abbrev st_is_tree : Stmt := top 45
abbrev st_want_tree : Stmt := top 46
abbrev st_without : Stmt := top 48
abbrev st_ended : Stmt := top 49
abbrev st_begun : Stmt := top 50
abbrev st_nth_group : Stmt := top 51
abbrev st_later_names : Stmt := top 52
abbrev st_groups_at : Stmt := top 53
abbrev st_day_ways : Stmt := top 55
abbrev st_size : Stmt := top 56
abbrev st_born_on : Stmt := top 58
abbrev st_names_behind : Stmt := top 59
abbrev st_tree_at : Stmt := top 60
abbrev st_nth_tree : Stmt := top 61
abbrev st_lines_ahead : Stmt := top 63
abbrev st_line_with : Stmt := top 64
abbrev st_renamed_tree : Stmt := top 66
abbrev st_first_day : Stmt := top 68
abbrev st_met_on : Stmt := top 69
abbrev st_law_pool : Stmt := top 71
abbrev st_law_take : Stmt := top 72
abbrev st_law_one : Stmt := top 73
abbrev st_law_shuffled : Stmt := top 74
abbrev st_law_pattern : Stmt := top 75
abbrev st_law_drawn : Stmt := top 76
abbrev st_law_great : Stmt := top 86
abbrev st_law : Stmt := top 87
abbrev st_cal_init : Stmt := inClass (top 26) 0
def d_is_number : He.DefD := ⟨("is_number", none), "is_number", "is_number", defArgs st_is_number, defBody st_is_number, defScope st_is_number, [], []⟩
def d_made_share : He.DefD := ⟨("made_share", none), "made_share", "made_share", defArgs st_made_share, defBody st_made_share, defScope st_made_share, [], []⟩
def d_share : He.DefD := ⟨("share", none), "share", "share", defArgs st_share, defBody st_share, defScope st_share, [], []⟩
def d_minus : He.DefD := ⟨("minus", none), "minus", "minus", defArgs st_minus, defBody st_minus, defScope st_minus, [], []⟩
def d_times : He.DefD := ⟨("times", none), "times", "times", defArgs st_times, defBody st_times, defScope st_times, [], []⟩
def d_pairs_of : He.DefD := ⟨("pairs_of", none), "pairs_of", "pairs_of", defArgs st_pairs_of, defBody st_pairs_of, defScope st_pairs_of, [], []⟩
def d_is_pattern : He.DefD := ⟨("is_pattern", none), "is_pattern", "is_pattern", defArgs st_is_pattern, defBody st_is_pattern, defScope st_is_pattern, [], []⟩
def d_ways_of : He.DefD := ⟨("ways_of", none), "ways_of", "ways_of", defArgs st_ways_of, defBody st_ways_of, defScope st_ways_of, [], []⟩
def d_counts_of : He.DefD := ⟨("counts_of", none), "counts_of", "counts_of", defArgs st_counts_of, defBody st_counts_of, defScope st_counts_of, [], []⟩
def d_made_calendar : He.DefD := ⟨("made_calendar", none), "made_calendar", "made_calendar", defArgs st_made_calendar, defBody st_made_calendar, defScope st_made_calendar, [], []⟩
def d_want_places : He.DefD := ⟨("want_places", none), "want_places", "want_places", defArgs st_want_places, defBody st_want_places, defScope st_want_places, [], []⟩
def d_renamed : He.DefD := ⟨("renamed", none), "renamed", "renamed", defArgs st_renamed, defBody st_renamed, defScope st_renamed, [], []⟩
def d_want_leaf : He.DefD := ⟨("want_leaf", none), "want_leaf", "want_leaf", defArgs st_want_leaf, defBody st_want_leaf, defScope st_want_leaf, [], []⟩
def d_want_pair : He.DefD := ⟨("want_pair", none), "want_pair", "want_pair", defArgs st_want_pair, defBody st_want_pair, defScope st_want_pair, [], []⟩
def d_counts : He.DefD := ⟨("counts", none), "counts", "counts", defArgs st_counts, defBody st_counts, defScope st_counts, [], []⟩
def d_pair_chance : He.DefD := ⟨("pair_chance", none), "pair_chance", "pair_chance", defArgs st_pair_chance, defBody st_pair_chance, defScope st_pair_chance, [], []⟩
def d_first_days : He.DefD := ⟨("first_days", none), "first_days", "first_days", defArgs st_first_days, defBody st_first_days, defScope st_first_days, [], []⟩
def d_meeting : He.DefD := ⟨("meeting", none), "meeting", "meeting", defArgs st_meeting, defBody st_meeting, defScope st_meeting, [], []⟩
def d_with_newborn : He.DefD := ⟨("with_newborn", none), "with_newborn", "with_newborn", defArgs st_with_newborn, defBody st_with_newborn, defScope st_with_newborn, [], []⟩
def d_behind_row : He.DefD := ⟨("behind_row", none), "behind_row", "behind_row", defArgs st_behind_row, defBody st_behind_row, defScope st_behind_row, [], []⟩
def d_is_group : He.DefD := ⟨("is_group", none), "is_group", "is_group", defArgs st_is_group, defBody st_is_group, defScope st_is_group, [], []⟩
def d_is_row : He.DefD := ⟨("is_row", none), "is_row", "is_row", defArgs st_is_row, defBody st_is_row, defScope st_is_row, [], []⟩
def d_first_bad : He.DefD := ⟨("first_bad", none), "first_bad", "first_bad", defArgs st_first_bad, defBody st_first_bad, defScope st_first_bad, [], []⟩
def d_is_tree : He.DefD := ⟨("is_tree", none), "is_tree", "is_tree", defArgs st_is_tree, defBody st_is_tree, defScope st_is_tree, [], []⟩
def d_want_tree : He.DefD := ⟨("want_tree", none), "want_tree", "want_tree", defArgs st_want_tree, defBody st_want_tree, defScope st_want_tree, [], []⟩
def d_without : He.DefD := ⟨("without", none), "without", "without", defArgs st_without, defBody st_without, defScope st_without, [], []⟩
def d_ended : He.DefD := ⟨("ended", none), "ended", "ended", defArgs st_ended, defBody st_ended, defScope st_ended, [], []⟩
def d_begun : He.DefD := ⟨("begun", none), "begun", "begun", defArgs st_begun, defBody st_begun, defScope st_begun, [], []⟩
def d_nth_group : He.DefD := ⟨("nth_group", none), "nth_group", "nth_group", defArgs st_nth_group, defBody st_nth_group, defScope st_nth_group, [], []⟩
def d_later_names : He.DefD := ⟨("later_names", none), "later_names", "later_names", defArgs st_later_names, defBody st_later_names, defScope st_later_names, [], []⟩
def d_groups_at : He.DefD := ⟨("groups_at", none), "groups_at", "groups_at", defArgs st_groups_at, defBody st_groups_at, defScope st_groups_at, [], []⟩
def d_day_ways : He.DefD := ⟨("day_ways", none), "day_ways", "day_ways", defArgs st_day_ways, defBody st_day_ways, defScope st_day_ways, [], []⟩
def d_size : He.DefD := ⟨("size", none), "size", "size", defArgs st_size, defBody st_size, defScope st_size, [], []⟩
def d_born_on : He.DefD := ⟨("born_on", none), "born_on", "born_on", defArgs st_born_on, defBody st_born_on, defScope st_born_on, [], []⟩
def d_names_behind : He.DefD := ⟨("names_behind", none), "names_behind", "names_behind", defArgs st_names_behind, defBody st_names_behind, defScope st_names_behind, [], []⟩
def d_tree_at : He.DefD := ⟨("tree_at", none), "tree_at", "tree_at", defArgs st_tree_at, defBody st_tree_at, defScope st_tree_at, [], []⟩
def d_nth_tree : He.DefD := ⟨("nth_tree", none), "nth_tree", "nth_tree", defArgs st_nth_tree, defBody st_nth_tree, defScope st_nth_tree, [], []⟩
def d_lines_ahead : He.DefD := ⟨("lines_ahead", none), "lines_ahead", "lines_ahead", defArgs st_lines_ahead, defBody st_lines_ahead, defScope st_lines_ahead, [], []⟩
def d_line_with : He.DefD := ⟨("line_with", none), "line_with", "line_with", defArgs st_line_with, defBody st_line_with, defScope st_line_with, [], []⟩
def d_renamed_tree : He.DefD := ⟨("renamed_tree", none), "renamed_tree", "renamed_tree", defArgs st_renamed_tree, defBody st_renamed_tree, defScope st_renamed_tree, [], []⟩
def d_first_day : He.DefD := ⟨("first_day", none), "first_day", "first_day", defArgs st_first_day, defBody st_first_day, defScope st_first_day, [], []⟩
def d_met_on : He.DefD := ⟨("met_on", none), "met_on", "met_on", defArgs st_met_on, defBody st_met_on, defScope st_met_on, [], []⟩
def d_law_pool : He.DefD := ⟨("_law_pool", none), "_law_pool", "_law_pool", defArgs st_law_pool, defBody st_law_pool, defScope st_law_pool, [], []⟩
def d_law_take : He.DefD := ⟨("_law_take", none), "_law_take", "_law_take", defArgs st_law_take, defBody st_law_take, defScope st_law_take, [], []⟩
def d_law_one : He.DefD := ⟨("_law_one", none), "_law_one", "_law_one", defArgs st_law_one, defBody st_law_one, defScope st_law_one, [], []⟩
def d_law_shuffled : He.DefD := ⟨("_law_shuffled", none), "_law_shuffled", "_law_shuffled", defArgs st_law_shuffled, defBody st_law_shuffled, defScope st_law_shuffled, [], []⟩
def d_law_pattern : He.DefD := ⟨("_law_pattern", none), "_law_pattern", "_law_pattern", defArgs st_law_pattern, defBody st_law_pattern, defScope st_law_pattern, [], []⟩
def d_law_drawn : He.DefD := ⟨("_law_drawn", none), "_law_drawn", "_law_drawn", defArgs st_law_drawn, defBody st_law_drawn, defScope st_law_drawn, [], []⟩
def d_law_great : He.DefD := ⟨("_law_great", none), "_law_great", "_law_great", defArgs st_law_great, defBody st_law_great, defScope st_law_great, [], []⟩
def d_law : He.DefD := ⟨("law", none), "law", "law", defArgs st_law, defBody st_law, defScope st_law, [], []⟩
def d_cal_init : He.DefD := ⟨("Calendar", some "__init__"), "__init__", "Calendar.__init__", defArgs st_cal_init, defBody st_cal_init, defScope st_cal_init, [], []⟩
def fn : List He.DefD := [d_is_number, d_made_share, d_share, d_minus, d_times, d_pairs_of, d_is_pattern, d_ways_of, d_counts_of, d_made_calendar, d_want_places, d_renamed, d_want_leaf, d_want_pair, d_counts, d_pair_chance, d_first_days, d_meeting, d_with_newborn, d_behind_row, d_is_group, d_is_row, d_first_bad, d_is_tree, d_want_tree, d_without, d_ended, d_begun, d_nth_group, d_later_names, d_groups_at, d_day_ways, d_size, d_born_on, d_names_behind, d_tree_at, d_nth_tree, d_lines_ahead, d_line_with, d_renamed_tree, d_first_day, d_met_on, d_law_pool, d_law_take, d_law_one, d_law_shuffled, d_law_pattern, d_law_drawn, d_law_great, d_law, d_cal_init]
def fa : List He.Fa := [.free "len", .free "sum", .free "sorted", .free "tuple", .free "set", .free "range", .free "enumerate", .free "zip", .free "min", .free "max", .free "int", .free "list", .free "isinstance", .free "all", .free "any", .free "bool", .free "dict", .int "LEAST_GROUP" 2, .int "MOST_LEAVES" 12, .int "MOST_DAYS" 11, .glo "Calendar", .cls "Calendar", .noat "Calendar" "born", .noat "Calendar" "days", .mkr "Calendar", .glo "is_number", .glo "made_share", .glo "share", .glo "minus", .glo "times", .glo "pairs_of", .glo "is_pattern", .glo "ways_of", .glo "counts_of", .glo "made_calendar", .glo "want_places", .glo "renamed", .glo "want_leaf", .glo "want_pair", .glo "counts", .glo "pair_chance", .glo "first_days", .glo "meeting", .glo "with_newborn", .glo "behind_row", .glo "is_group", .glo "is_row", .glo "first_bad", .glo "is_tree", .glo "want_tree", .glo "without", .glo "ended", .glo "begun", .glo "nth_group", .glo "later_names", .glo "groups_at", .glo "day_ways", .glo "size", .glo "born_on", .glo "names_behind", .glo "tree_at", .glo "nth_tree", .glo "lines_ahead", .glo "line_with", .glo "renamed_tree", .glo "first_day", .glo "met_on", .glo "_law_pool", .glo "_law_take", .glo "_law_one", .glo "_law_shuffled", .glo "_law_pattern", .glo "_law_drawn", .glo "_law_great", .glo "law"]
def ex (K : PySem.W.Frag) : Bool := He.tupB K "ONE" [.int 1, .int 1] && (He.eqO (PySem.W.nsIn K mainGlobals "ONE") (some (some (.ref (He.ga K "ONE")))) && (He.eqO (PySem.W.nsIn K mainGlobals "comb") (some (some (.builtin "math.comb"))) && (He.eqO (PySem.W.nsIn K mainGlobals "factorial") (some (some (.builtin "math.factorial"))) && He.eqO (PySem.W.nsIn K mainGlobals "gcd") (some (some (.builtin "math.gcd"))))))
end Dh

/-! The mirror and its mathematics, plain Lean -/
namespace Dl
/-! ### sorting -/
def ins (x : Int) : List Int → List Int
  | [] => [x]
  | y :: r => if x ≤ y then x :: y :: r else y :: ins x r
def isort : List Int → List Int
  | [] => []
  | x :: r => ins x (isort r)
theorem ins_perm (x : Int) : ∀ l : List Int, (ins x l).Perm (x :: l)
  | [] => .refl _
  | y :: r => by
    unfold ins
    split
    · exact .refl _
    · exact ((ins_perm x r).cons y).trans (List.Perm.swap x y r)
theorem isort_perm : ∀ l : List Int, (isort l).Perm l
  | [] => .refl _
  | x :: r => (ins_perm x _).trans ((isort_perm r).cons x)
theorem ins_srt (x : Int) : ∀ l : List Int, l.Pairwise (· ≤ ·) → (ins x l).Pairwise (· ≤ ·)
  | [], _ => by simp [ins]
  | y :: r, h => by
    unfold ins
    split
    · rename_i hxy
      refine List.pairwise_cons.mpr ⟨fun z hz => ?_, h⟩
      rcases List.mem_cons.mp hz with rfl | hz
      · exact hxy
      · exact Int.le_trans hxy ((List.pairwise_cons.mp h).1 z hz)
    · rename_i hxy
      refine List.pairwise_cons.mpr ⟨fun z hz => ?_, ins_srt x r (List.pairwise_cons.mp h).2⟩
      rcases List.mem_cons.mp ((ins_perm x r).mem_iff.mp hz) with rfl | hz
      · omega
      · exact (List.pairwise_cons.mp h).1 z hz
theorem isort_srt : ∀ l : List Int, (isort l).Pairwise (· ≤ ·)
  | [] => .nil
  | x :: r => ins_srt x _ (isort_srt r)
theorem srt_uniq : ∀ {a b : List Int}, a.Perm b → a.Pairwise (· ≤ ·) → b.Pairwise (· ≤ ·) → a = b
  | [], b, h, _, _ => by rw [List.Perm.eq_nil h.symm]
  | x :: a, [], h, _, _ => by cases (List.Perm.eq_nil h)
  | x :: a, y :: b, h, ha, hb => by
    have e : x = y := by
      have h1 : x ∈ y :: b := h.mem_iff.mp List.mem_cons_self
      have h2 : y ∈ x :: a := h.mem_iff.mpr List.mem_cons_self
      rcases List.mem_cons.mp h1 with q | q
      · exact q
      · rcases List.mem_cons.mp h2 with r | r
        · exact r.symm
        · have u := (List.pairwise_cons.mp hb).1 x q
          have v := (List.pairwise_cons.mp ha).1 y r
          omega
    subst e
    rw [srt_uniq (List.Perm.cons_inv h) (List.pairwise_cons.mp ha).2 (List.pairwise_cons.mp hb).2]
theorem isort_eq {l m : List Int} (h : m.Perm l) (s : m.Pairwise (· ≤ ·)) : m = isort l := srt_uniq (h.trans (isort_perm l).symm) s (isort_srt l)
theorem isort_congr {l m : List Int} (h : l.Perm m) : isort l = isort m := srt_uniq ((isort_perm l).trans (h.trans (isort_perm m).symm)) (isort_srt l) (isort_srt m)
theorem isort_id {l : List Int} (s : l.Pairwise (· ≤ ·)) : isort l = l := (isort_eq (.refl l) s).symm
theorem isort_mem {l : List Int} {x : Int} : x ∈ isort l ↔ x ∈ l := (isort_perm l).mem_iff
theorem isort_len (l : List Int) : (isort l).length = l.length := (isort_perm l).length_eq
theorem isort_lt {l : List Int} (h : l.Nodup) : (isort l).Pairwise (· < ·) := by
  have h1 := isort_srt l
  have h2 : (isort l).Pairwise (· ≠ ·) := (isort_perm l).nodup_iff.mpr h
  exact (List.pairwise_and_iff.mpr ⟨h1, h2⟩).imp fun ⟨a, b⟩ => by omega
theorem lt_le {l : List Int} (h : l.Pairwise (· < ·)) : l.Pairwise (· ≤ ·) := h.imp fun h => by omega
theorem lt_nodup {l : List Int} (h : l.Pairwise (· < ·)) : l.Nodup := h.imp fun h => by omega

/-! ### order of lists, by their signs -/
def lx : List Int → List Int → Bool
  | [], [] => false
  | [], _ :: _ => true
  | _ :: _, [] => false
  | x :: xs, y :: ys => if x = y then lx xs ys else decide (x < y)
theorem lx_irr : ∀ a : List Int, lx a a = false
  | [] => rfl
  | x :: a => by simp [lx, lx_irr a]
theorem lx_tri : ∀ a b : List Int, lx a b = false → lx b a = false → a = b
  | [], [], _, _ => rfl
  | [], _ :: _, h, _ => by simp [lx] at h
  | _ :: _, [], _, h => by simp [lx] at h
  | x :: a, y :: b, h, k => by
    simp only [lx] at h k
    by_cases e : x = y
    · subst e
      simp only [if_true] at h k
      rw [lx_tri a b h k]
    · rw [if_neg e] at h
      rw [if_neg (fun q => e q.symm)] at k
      have h' := of_decide_eq_false h
      have k' := of_decide_eq_false k
      omega
theorem lx_tr : ∀ a b c : List Int, lx a b = true → lx b c = true → lx a c = true
  | [], [], _, h, _ => by simp [lx] at h
  | [], _ :: _, [], _, k => by simp [lx] at k
  | [], _ :: _, _ :: _, _, _ => rfl
  | _ :: _, [], _, h, _ => by simp [lx] at h
  | _ :: _, _ :: _, [], _, k => by simp [lx] at k
  | x :: a, y :: b, z :: c, h, k => by
    simp only [lx] at h k ⊢
    by_cases e : x = y
    · subst e
      rw [if_pos rfl] at h
      by_cases f : x = z
      · rw [if_pos f] at k ⊢
        exact lx_tr a b c h k
      · rw [if_neg f] at k ⊢
        exact k
    · rw [if_neg e] at h
      have h' := of_decide_eq_true h
      by_cases f : y = z
      · subst f
        rw [if_neg e]
        exact h
      · rw [if_neg f] at k
        have k' := of_decide_eq_true k
        rw [if_neg (by omega)]
        exact decide_eq_true (by omega)
/-- not behind -/
def lle (a b : List Int) : Prop := lx b a = false
theorem lle_tr {a b c : List Int} (h : lle a b) (k : lle b c) : lle a c := by
  unfold lle at *
  cases e : lx c a with
  | false => rfl
  | true =>
    cases f : lx a b with
    | true => rw [lx_tr c a b e f] at k; cases k
    | false =>
      have q := lx_tri a b f h
      subst q
      rw [e] at k; cases k
theorem lle_tot (a b : List Int) : lle a b ∨ lle b a := by
  unfold lle
  cases e : lx b a with
  | false => exact .inl rfl
  | true =>
    right
    cases f : lx a b with
    | false => rfl
    | true => have := lx_tr a b a f e; rw [lx_irr] at this; cases this
def rins (x : List Int) : List (List Int) → List (List Int)
  | [] => [x]
  | y :: r => if lx y x = false then x :: y :: r else y :: rins x r
def rsort : List (List Int) → List (List Int)
  | [] => []
  | x :: r => rins x (rsort r)
theorem rins_perm (x : List Int) : ∀ l : List (List Int), (rins x l).Perm (x :: l)
  | [] => .refl _
  | y :: r => by
    unfold rins
    split
    · exact .refl _
    · exact ((rins_perm x r).cons y).trans (List.Perm.swap x y r)
theorem rsort_perm : ∀ l : List (List Int), (rsort l).Perm l
  | [] => .refl _
  | x :: r => (rins_perm x _).trans ((rsort_perm r).cons x)
theorem rins_srt (x : List Int) : ∀ l : List (List Int), l.Pairwise lle → (rins x l).Pairwise lle
  | [], _ => by simp [rins]
  | y :: r, h => by
    unfold rins
    split
    · rename_i hxy
      refine List.pairwise_cons.mpr ⟨fun z hz => ?_, h⟩
      rcases List.mem_cons.mp hz with rfl | hz
      · exact hxy
      · exact lle_tr hxy ((List.pairwise_cons.mp h).1 z hz)
    · rename_i hxy
      have hyx : lle y x := (lle_tot y x).resolve_right hxy
      refine List.pairwise_cons.mpr ⟨fun z hz => ?_, rins_srt x r (List.pairwise_cons.mp h).2⟩
      rcases List.mem_cons.mp ((rins_perm x r).mem_iff.mp hz) with rfl | hz
      · exact hyx
      · exact (List.pairwise_cons.mp h).1 z hz
theorem rsort_srt : ∀ l : List (List Int), (rsort l).Pairwise lle
  | [] => .nil
  | x :: r => rins_srt x _ (rsort_srt r)
theorem rsrt_uniq : ∀ {a b : List (List Int)}, a.Perm b → a.Pairwise lle → b.Pairwise lle → a = b
  | [], b, h, _, _ => by rw [List.Perm.eq_nil h.symm]
  | x :: a, [], h, _, _ => by cases (List.Perm.eq_nil h)
  | x :: a, y :: b, h, ha, hb => by
    have e : x = y := by
      have h1 : x ∈ y :: b := h.mem_iff.mp List.mem_cons_self
      have h2 : y ∈ x :: a := h.mem_iff.mpr List.mem_cons_self
      rcases List.mem_cons.mp h1 with q | q
      · exact q
      · rcases List.mem_cons.mp h2 with r | r
        · exact r.symm
        · exact lx_tri x y ((List.pairwise_cons.mp hb).1 x q) ((List.pairwise_cons.mp ha).1 y r)
    subst e
    rw [rsrt_uniq (List.Perm.cons_inv h) (List.pairwise_cons.mp ha).2 (List.pairwise_cons.mp hb).2]
theorem rsort_eq {l m : List (List Int)} (h : m.Perm l) (s : m.Pairwise lle) : m = rsort l := rsrt_uniq (h.trans (rsort_perm l).symm) s (rsort_srt l)
theorem rsort_id {l : List (List Int)} (s : l.Pairwise lle) : rsort l = l := (rsort_eq (.refl l) s).symm

/-! ### numbers -/
def facN : Nat → Nat
  | 0 => 1
  | n + 1 => facN n * (n + 1)
def fac (n : Int) : Int := (facN n.toNat : Nat)
def cmb : Nat → Nat → Nat
  | _, 0 => 1
  | 0, _ + 1 => 0
  | n + 1, k + 1 => cmb n k + cmb n (k + 1)
theorem facN_pos : ∀ n, 1 ≤ facN n
  | 0 => Nat.le_refl _
  | n + 1 => Nat.mul_le_mul (facN_pos n) (Nat.succ_le_succ (Nat.zero_le n))
theorem fac_pos (n : Int) : 1 ≤ fac n := by
  have := facN_pos n.toNat
  unfold fac
  omega
/-- sorted(set(p)) -/
def uins (x : Int) : List Int → List Int
  | [] => [x]
  | y :: r => if x < y then x :: y :: r else if x = y then y :: r else y :: uins x r
def dset : List Int → List Int
  | [] => []
  | x :: r => uins x (dset r)
theorem uins_mem (x z : Int) : ∀ l : List Int, z ∈ uins x l ↔ z = x ∨ z ∈ l
  | [] => by simp [uins]
  | y :: r => by
    unfold uins
    split
    · simp
    · split
      · rename_i h; subst h; simp
      · simp only [List.mem_cons, uins_mem x z r]
        constructor
        · rintro (h | h | h) <;> simp [h]
        · rintro (h | h | h) <;> simp [h]
theorem dset_mem (z : Int) : ∀ l : List Int, z ∈ dset l ↔ z ∈ l
  | [] => by simp [dset]
  | x :: r => by simp only [dset, uins_mem, dset_mem z r, List.mem_cons]
theorem uins_srt (x : Int) : ∀ l : List Int, l.Pairwise (· < ·) → (uins x l).Pairwise (· < ·)
  | [], _ => by simp [uins]
  | y :: r, h => by
    unfold uins
    split
    · rename_i hxy
      refine List.pairwise_cons.mpr ⟨fun z hz => ?_, h⟩
      rcases List.mem_cons.mp hz with rfl | hz
      · exact hxy
      · exact Int.lt_trans hxy ((List.pairwise_cons.mp h).1 z hz)
    · split
      · exact h
      · refine List.pairwise_cons.mpr ⟨fun z hz => ?_, uins_srt x r (List.pairwise_cons.mp h).2⟩
        rcases (uins_mem x z r).mp hz with rfl | hz
        · omega
        · exact (List.pairwise_cons.mp h).1 z hz
theorem dset_srt : ∀ l : List Int, (dset l).Pairwise (· < ·)
  | [] => .nil
  | x :: r => uins_srt x _ (dset_srt r)
theorem lt_uniq : ∀ {a b : List Int}, (∀ x, x ∈ a ↔ x ∈ b) → a.Pairwise (· < ·) → b.Pairwise (· < ·) → a = b
  | [], [], _, _, _ => rfl
  | [], y :: b, h, _, _ => by have := (h y).mpr List.mem_cons_self; cases this
  | x :: a, [], h, _, _ => by have := (h x).mp List.mem_cons_self; cases this
  | x :: a, y :: b, h, ha, hb => by
    have e : x = y := by
      rcases List.mem_cons.mp ((h x).mp List.mem_cons_self) with q | q
      · exact q
      · rcases List.mem_cons.mp ((h y).mpr List.mem_cons_self) with r | r
        · exact r.symm
        · have u := (List.pairwise_cons.mp hb).1 x q
          have v := (List.pairwise_cons.mp ha).1 y r
          omega
    subst e
    have g : ∀ z, z ∈ a ↔ z ∈ b := fun z => by
      constructor
      · intro hz
        rcases List.mem_cons.mp ((h z).mp (List.mem_cons_of_mem _ hz)) with q | q
        · have := (List.pairwise_cons.mp ha).1 z hz; omega
        · exact q
      · intro hz
        rcases List.mem_cons.mp ((h z).mpr (List.mem_cons_of_mem _ hz)) with q | q
        · have := (List.pairwise_cons.mp hb).1 z hz; omega
        · exact q
    rw [lt_uniq g (List.pairwise_cons.mp ha).2 (List.pairwise_cons.mp hb).2]
theorem dset_eq {l m : List Int} (h : ∀ x, x ∈ m ↔ x ∈ l) (s : m.Pairwise (· < ·)) : m = dset l := lt_uniq (fun x => (h x).trans (dset_mem x l).symm) s (dset_srt l)

/-! ### ways -/
def waysI (k : Int) (p : List Int) : Int :=
  if k < p.sum then 0 else (dset p).foldl (fun f s => f / fac (p.count s : Nat)) (p.foldl (fun f s => f / fac s) (fac k / fac (k - p.sum)))
def ended (p : List Int) (behind len : Int) : Int := if len ∈ p ∧ 0 ≤ behind - len + 1 then waysI (behind - len + 1) (p.erase len) else 0
def bterm (p : List Int) (behind len later s : Int) : Int := (cmb later.toNat (s - len).toNat : Nat) * ended p behind s
def begun (p : List Int) (behind len later : Int) : Int := (((dset p).filter fun s => decide (len ≤ s ∧ s ≤ len + later)).map (bterm p behind len later)).sum
/-- a pattern, as the law draws it: one or two sizes (or none) -/
structure Pat (p : List Int) : Prop where
  len : p.length ≤ 2
  two : ∀ s ∈ p, 2 ≤ s
  srt : p.Pairwise (· ≥ ·)
  most : p.sum ≤ 12
theorem Pat.cases {p : List Int} (h : Pat p) : p = [] ∨ (∃ a, p = [a] ∧ 2 ≤ a ∧ a ≤ 12) ∨ ∃ a b, p = [a, b] ∧ 2 ≤ b ∧ b ≤ a ∧ a + b ≤ 12 := by
  obtain ⟨h1, h2, h3, h4⟩ := h
  match p, h1, h2, h3, h4 with
  | [], _, _, _, _ => exact .inl rfl
  | [a], _, h2, _, h4 =>
    have := h2 a (by simp)
    simp at h4
    exact .inr (.inl ⟨a, rfl, this, h4⟩)
  | [a, b], _, h2, h3, h4 =>
    have := h2 b (by simp)
    simp at h3 h4
    exact .inr (.inr ⟨a, b, rfl, this, h3, by omega⟩)
theorem Pat.erase {p : List Int} (h : Pat p) {l : Int} (hl : l ∈ p) : Pat (p.erase l) ∧ (p.erase l).sum = p.sum - l := by
  rcases h.cases with rfl | ⟨a, rfl, h2, h3⟩ | ⟨a, b, rfl, h2, h3, h4⟩
  · cases hl
  · have e : l = a := by simpa using hl
    subst e
    refine ⟨⟨by simp, by simp, by simp, by simp⟩, by simp⟩
  · by_cases e : a = l
    · subst e
      refine ⟨⟨by simp, by simpa using h2, by simp, by simp; omega⟩, by simp; omega⟩
    · have e2 : l = b := by
        rcases List.mem_cons.mp hl with q | q
        · exact absurd q.symm e
        · simpa using q
      subst e2
      have q : [a, l].erase l = [a] := by simp [List.erase_cons, e]
      rw [q]
      refine ⟨⟨by simp, by simp; omega, by simp, by simp; omega⟩, by simp⟩
/-- every pattern's first name is that of some line, or there are none: checked one by one -/
def chkA (p : List Int) (n : Nat) : Bool := decide (waysI ((n : Int) + 1) p = waysI n p + begun p n 1 n)
theorem chk1 : ∀ a < 13, ∀ n < 12, 2 ≤ a → chkA [(a : Nat)] n = true := by decide +kernel
theorem chk2 : ∀ a < 13, ∀ b < 13, ∀ n < 12, (2 ≤ b ∧ b ≤ a ∧ a + b ≤ 12) → chkA [(a : Nat), (b : Nat)] n = true := by decide +kernel
theorem ways_step {p : List Int} (h : Pat p) (hp : p ≠ []) {n : Int} (h0 : 0 ≤ n) (hn : n ≤ 11) : waysI (n + 1) p = waysI n p + begun p n 1 n := by
  obtain ⟨m, rfl⟩ : ∃ m : Nat, n = m := ⟨n.toNat, by omega⟩
  rcases h.cases with rfl | ⟨a, rfl, h2, h3⟩ | ⟨a, b, rfl, h2, h3, h4⟩
  · exact absurd rfl hp
  · obtain ⟨a', rfl⟩ : ∃ m : Nat, a = m := ⟨a.toNat, by omega⟩
    exact of_decide_eq_true (chk1 a' (by omega) m (by omega) (by omega))
  · obtain ⟨a', rfl⟩ : ∃ m : Nat, a = m := ⟨a.toNat, by omega⟩
    obtain ⟨b', rfl⟩ : ∃ m : Nat, b = m := ⟨b.toNat, by omega⟩
    exact of_decide_eq_true (chk2 a' (by omega) b' (by omega) m (by omega) (by omega))
theorem ways_zero {p : List Int} (h : Pat p) (hp : p ≠ []) : waysI 0 p = 0 := by
  rcases h.cases with rfl | ⟨a, rfl, h2, h3⟩ | ⟨a, b, rfl, h2, h3, h4⟩
  · exact absurd rfl hp
  · unfold waysI; rw [if_pos (by simp; omega)]
  · unfold waysI; rw [if_pos (by simp; omega)]
theorem ways_nil {k : Int} (h : 0 ≤ k) : waysI k [] = 1 := by
  unfold waysI
  rw [if_neg (by simp; omega)]
  simp only [dset, List.foldl_nil, List.sum_nil, Int.sub_zero]
  have := fac_pos k
  exact Int.ediv_self (by omega)
theorem div_nn {a b : Int} (ha : 0 ≤ a) (hb : 1 ≤ b) : 0 ≤ a / b := Int.ediv_nonneg ha (by omega)
theorem foldl_nn {α : Type} (g : α → Int) (hg : ∀ x, 1 ≤ g x) : ∀ (l : List α) (f : Int), 0 ≤ f → 0 ≤ l.foldl (fun f s => f / g s) f
  | [], _, h => h
  | x :: r, f, h => foldl_nn g hg r (f / g x) (div_nn h (hg x))
theorem ways_nn (k : Int) (p : List Int) : 0 ≤ waysI k p := by
  unfold waysI
  split
  · exact Int.le_refl _
  · have h1 := fac_pos k
    refine foldl_nn (fun s => fac (p.count s : Nat)) (fun _ => fac_pos _) _ _ (foldl_nn fac fac_pos _ _ (div_nn (by omega) (fac_pos _)))
theorem ended_nn (p : List Int) (b l : Int) : 0 ≤ ended p b l := by
  unfold ended
  split
  · exact ways_nn _ _
  · exact Int.le_refl _
theorem cmb_above : ∀ {n k : Nat}, n < k → cmb n k = 0
  | 0, 0, h => absurd h (Nat.lt_irrefl _)
  | 0, _ + 1, _ => rfl
  | n + 1, 0, h => by omega
  | n + 1, k + 1, h => by
    show cmb n k + cmb n (k + 1) = 0
    rw [cmb_above (n := n) (k := k) (by omega), cmb_above (n := n) (k := k + 1) (by omega)]
/-- begun over all sizes -/
def bsum (p : List Int) (behind len later : Int) (l : List Int) : Int := (l.map fun s => if len ≤ s then bterm p behind len later s else 0).sum
theorem bsum_filter (p : List Int) (behind len later : Int) (h0 : 0 ≤ later) : ∀ l : List Int, ((l.filter fun s => decide (len ≤ s ∧ s ≤ len + later)).map (bterm p behind len later)).sum = bsum p behind len later l
  | [] => rfl
  | s :: r => by
    have ih := bsum_filter p behind len later h0 r
    unfold bsum at *
    rw [List.filter_cons]
    by_cases h : len ≤ s ∧ s ≤ len + later
    · rw [if_pos (decide_eq_true h)]
      simp only [List.map_cons, List.sum_cons, ih, if_pos h.1]
    · rw [if_neg (by simpa using h)]
      simp only [List.map_cons, List.sum_cons, ih]
      by_cases h1 : len ≤ s
      · rw [if_pos h1]
        have z : cmb later.toNat (s - len).toNat = 0 := cmb_above (by omega)
        simp [bterm, z]
      · rw [if_neg h1, Int.zero_add]
theorem begun_sum (p : List Int) (behind len : Int) {later : Int} (h0 : 0 ≤ later) : begun p behind len later = bsum p behind len later (dset p) := bsum_filter p behind len later h0 _
theorem bsum_step (p : List Int) (behind len later : Int) (h0 : 0 ≤ later) : ∀ l : List Int, bsum p behind len (later + 1) l = bsum p behind (len + 1) later l + bsum p behind len later l
  | [] => rfl
  | s :: r => by
    have ih := bsum_step p behind len later h0 r
    unfold bsum at *
    simp only [List.map_cons, List.sum_cons, ih]
    have key : (if len ≤ s then bterm p behind len (later + 1) s else 0) = (if len + 1 ≤ s then bterm p behind (len + 1) later s else 0) + (if len ≤ s then bterm p behind len later s else 0) := by
      by_cases h1 : len + 1 ≤ s
      · rw [if_pos (by omega), if_pos h1, if_pos (by omega)]
        unfold bterm
        obtain ⟨m, hm⟩ : ∃ m : Nat, (s - (len + 1)).toNat = m := ⟨_, rfl⟩
        have e1 : (s - len).toNat = m + 1 := by omega
        have e2 : (later + 1).toNat = later.toNat + 1 := by omega
        rw [hm, e1, e2, ← Int.add_mul]
        show (((cmb later.toNat m + cmb later.toNat (m + 1) : Nat)) : Int) * _ = _
        rw [Int.natCast_add]
      · rw [if_neg h1, Int.zero_add]
        by_cases h2 : len ≤ s
        · rw [if_pos h2, if_pos h2]
          have e1 : (s - len).toNat = 0 := by omega
          have c0 : ∀ n, cmb n 0 = 1 := fun n => by cases n <;> rfl
          unfold bterm
          rw [e1, c0, c0]
        · rw [if_neg h2, if_neg h2]
    rw [key]
    omega
theorem begun_step (p : List Int) (behind len : Int) {later : Int} (h0 : 0 ≤ later) : begun p behind len (later + 1) = begun p behind (len + 1) later + begun p behind len later := by
  rw [begun_sum _ _ _ (by omega), begun_sum _ _ _ h0, begun_sum _ _ _ h0]
  exact bsum_step p behind len later h0 _
/-- where no name stands behind -/
theorem bsum_zero (p : List Int) (behind len : Int) : ∀ l : List Int, l.Pairwise (· < ·) → bsum p behind len 0 l = if len ∈ l then ended p behind len else 0
  | [], _ => by simp [bsum]
  | s :: r, hs => by
    have ih := bsum_zero p behind len r (List.pairwise_cons.mp hs).2
    unfold bsum at *
    simp only [List.map_cons, List.sum_cons, ih]
    by_cases h : len = s
    · subst h
      have nm : ¬ len ∈ r := fun q => by
        have := (List.pairwise_cons.mp hs).1 len q
        omega
      have e1 : (len - len).toNat = 0 := by omega
      rw [if_pos (Int.le_refl _), if_neg nm, if_pos List.mem_cons_self]
      unfold bterm
      rw [e1]
      simp [cmb]
    · have z : (if len ≤ s then bterm p behind len 0 s else 0) = 0 := by
        split
        · have c : cmb (0 : Int).toNat (s - len).toNat = 0 := cmb_above (by simp; omega)
          unfold bterm
          rw [c]
          simp
        · rfl
      rw [z, Int.zero_add]
      by_cases q : len ∈ r
      · rw [if_pos q, if_pos (List.mem_cons_of_mem _ q)]
      · rw [if_neg q, if_neg (by simp [h, q])]
theorem begun_zero (p : List Int) (behind len : Int) : begun p behind len 0 = ended p behind len := by
  rw [begun_sum _ _ _ (Int.le_refl _), bsum_zero _ _ _ _ (dset_srt p)]
  by_cases h : len ∈ p
  · rw [if_pos ((dset_mem _ _).mpr h)]
  · rw [if_neg (fun q => h ((dset_mem _ _).mp q))]
    unfold ended
    rw [if_neg (fun q => h q.1)]
end Dl

/-! Trees: the mirror of lines and rows, and what renaming does -/
namespace Dl
abbrev Lns := List (Int × List Int)
def look (ms : Lns) (k : Int) : List Int := ((ms.find? fun m => decide (m.1 = k)).map (·.2)).getD []
def put (ms : Lns) (k : Int) (v : List Int) : Lns := if (ms.any fun m => decide (m.1 = k)) = true then ms.map (fun m => if m.1 = k then (m.1, v) else m) else ms ++ [(k, v)]
def drop (ms : Lns) (k : Int) : Lns := ms.filter fun m => decide (m.1 ≠ k)
/-- with_newborn -/
def wnS (d : Int) (ms : Lns) (p : Int × Nat) : Lns := if p.1 = d then put ms (p.2 : Nat) [((p.2 : Nat) : Int)] else ms
def wn (born : List Int) (ms : Lns) (d : Int) : Lns := born.zipIdx.foldl (wnS d) ms
/-- behind_row -/
def popS (s : Lns × List Int) (name : Int) : Lns × List Int := (drop s.1 name, s.2 ++ look s.1 name)
def bg (ms : Lns) (g : List Int) : Lns := put (g.foldl popS (ms, [])).1 (g.headD 0) (isort (g.foldl popS (ms, [])).2)
def br (ms : Lns) (row : List (List Int)) : Lns := row.foldl bg ms
/-- the leaves born ahead of a day -/
def newl (born : List Int) (d : Int) : List Int := (born.zipIdx.filter fun p => decide (p.1 = d)).map fun p => ((p.2 : Nat) : Int)
/-- the lines ahead of day d without and with the newborn -/
def pre (born : List Int) (tree : List (List (List Int))) : Nat → Lns
  | 0 => []
  | d + 1 => br (wn born (pre born tree d) (d : Nat)) (tree.getD d [])
def la (born : List Int) (tree : List (List (List Int))) (d : Nat) : Lns := wn born (pre born tree d) (d : Nat)
def keys (ms : Lns) : List Int := ms.map (·.1)

theorem look_nil (k : Int) : look [] k = [] := rfl
theorem look_cons (m : Int × List Int) (ms : Lns) (k : Int) : look (m :: ms) k = if m.1 = k then m.2 else look ms k := by
  unfold look
  rw [List.find?_cons]
  by_cases h : m.1 = k
  · simp [h]
  · simp [h]
theorem look_mem : ∀ {ms : Lns} {k : Int} {l : List Int}, (keys ms).Nodup → (k, l) ∈ ms → look ms k = l
  | [], _, _, _, h => by cases h
  | m :: ms, k, l, nd, h => by
    rw [look_cons]
    rcases List.mem_cons.mp h with rfl | h
    · simp
    · have nk : ¬ m.1 = k := fun e => by
        have := (List.pairwise_cons.mp nd).1 k (List.mem_map_of_mem (f := (·.1)) h)
        exact this e
      rw [if_neg nk]
      exact look_mem (List.pairwise_cons.mp nd).2 h
theorem look_in : ∀ {ms : Lns} {k : Int}, k ∈ keys ms → (k, look ms k) ∈ ms
  | [], _, h => by cases h
  | m :: ms, k, h => by
    rw [look_cons]
    by_cases e : m.1 = k
    · rw [if_pos e, ← e]; exact List.mem_cons_self
    · rw [if_neg e]
      rcases List.mem_cons.mp h with q | q
      · exact absurd q.symm e
      · exact List.mem_cons_of_mem _ (look_in q)
theorem look_append (a b : Lns) (k : Int) : look (a ++ b) k = if k ∈ keys a then look a k else look b k := by
  induction a with
  | nil => simp [keys]
  | cons m a ih =>
    rw [List.cons_append, look_cons, look_cons, ih]
    by_cases e : m.1 = k
    · subst e; simp [keys]
    · have : (k ∈ keys (m :: a)) ↔ k ∈ keys a := by
        simp only [keys, List.map_cons, List.mem_cons]
        constructor
        · rintro (q | q)
          · exact absurd q.symm e
          · exact q
        · exact .inr
      rw [if_neg e, if_neg e]
      by_cases q : k ∈ keys a
      · rw [if_pos q, if_pos (this.mpr q)]
      · rw [if_neg q, if_neg (fun r => q (this.mp r))]
theorem look_filter (f : Int → Bool) (k : Int) (hk : f k = true) : ∀ ms : Lns, look (ms.filter fun m => f m.1) k = look ms k
  | [] => rfl
  | m :: ms => by
    rw [List.filter_cons, look_cons]
    by_cases e : m.1 = k
    · rw [if_pos (by rw [e]; exact hk), look_cons]
      simp [e]
    · rw [if_neg e]
      by_cases q : f m.1 = true
      · rw [if_pos q, look_cons, if_neg e]
        exact look_filter f k hk ms
      · rw [if_neg q]
        exact look_filter f k hk ms
theorem put_new {ms : Lns} {k : Int} {v : List Int} (h : k ∉ keys ms) : put ms k v = ms ++ [(k, v)] := by
  unfold put
  rw [if_neg]
  intro q
  obtain ⟨m, hm, e⟩ := List.any_eq_true.mp q
  exact h (List.mem_map.mpr ⟨m, hm, of_decide_eq_true e⟩)

/-! ### the newborn -/
theorem wn_fold (d : Int) : ∀ (L : List (Int × Nat)) (ms : Lns), (L.map (·.2)).Nodup → (∀ p ∈ L, p.1 = d → ((p.2 : Nat) : Int) ∉ keys ms) →
    L.foldl (wnS d) ms = ms ++ ((L.filter fun p => decide (p.1 = d)).map fun p => (((p.2 : Nat) : Int), [((p.2 : Nat) : Int)]))
  | [], ms, _, _ => by simp
  | p :: L, ms, nd, h => by
    rw [List.foldl_cons, List.filter_cons]
    have nd' := List.pairwise_cons.mp nd
    by_cases e : p.1 = d
    · have q := h p List.mem_cons_self e
      have s : wnS d ms p = ms ++ [(((p.2 : Nat) : Int), [((p.2 : Nat) : Int)])] := by
        unfold wnS
        rw [if_pos e, put_new q]
      rw [s, wn_fold d L _ nd'.2 ?_, if_pos (decide_eq_true e), List.map_cons, List.append_assoc]
      · rfl
      · intro r hr er
        have h1 := h r (List.mem_cons_of_mem _ hr) er
        have h2 : p.2 ≠ r.2 := nd'.1 r.2 (List.mem_map_of_mem (f := (·.2)) hr)
        simp only [keys, List.map_append, List.mem_append, List.map_cons, List.map_nil, List.mem_singleton]
        rintro (z | z)
        · exact h1 z
        · exact h2 (by omega)
    · have s : wnS d ms p = ms := by unfold wnS; rw [if_neg e]
      rw [s, wn_fold d L _ nd'.2 (fun r hr er => h r (List.mem_cons_of_mem _ hr) er), if_neg (by simpa using e)]
theorem zip_nodup (l : List Int) : (l.zipIdx.map (·.2)).Nodup := by
  have : l.zipIdx.map (·.2) = List.range l.length := by
    apply List.ext_getElem?
    intro i
    simp [List.getElem?_zipIdx, List.getElem?_range]
    by_cases h : i < l.length <;> simp [h]
  rw [this]
  exact List.nodup_range
theorem newl_mem {born : List Int} {d x : Int} : x ∈ newl born d ↔ ∃ i : Nat, x = i ∧ born[i]? = some d := by
  unfold newl
  simp only [List.mem_map, List.mem_filter, decide_eq_true_eq]
  constructor
  · rintro ⟨⟨b, i⟩, ⟨hm, e⟩, rfl⟩
    have hm' := List.mem_zipIdx_iff_getElem?.mp hm
    simp at e hm'
    exact ⟨i, rfl, by rw [hm', e]⟩
  · rintro ⟨i, rfl, h⟩
    exact ⟨(d, i), ⟨List.mem_zipIdx_iff_getElem?.mpr h, rfl⟩, rfl⟩
theorem newl_lt (born : List Int) (d : Int) : (newl born d).Pairwise (· < ·) := by
  unfold newl
  rw [List.pairwise_map]
  have h : born.zipIdx.Pairwise (fun a b => ((a.2 : Nat) : Int) < ((b.2 : Nat) : Int)) := by
    rw [List.pairwise_iff_getElem]
    intro i j hi hj hij
    simp only [List.getElem_zipIdx]
    omega
  exact h.filter _
theorem newl_len (d : Int) (born : List Int) : ((newl born d).length : Int) = (born.count d : Nat) := by
  have h : ∀ (l : List Int) (k : Nat), ((l.zipIdx k).filter fun p => decide (p.1 = d)).length = l.count d := by
    intro l
    induction l with
    | nil => intro k; rfl
    | cons a l ih =>
      intro k
      rw [List.zipIdx_cons, List.filter_cons, List.count_cons]
      by_cases e : a = d
      · subst e; simp [ih]
      · simp [e, ih]
  unfold newl
  rw [List.length_map, h]
theorem wn_eq {born : List Int} {ms : Lns} {d : Int} (h : ∀ x ∈ newl born d, x ∉ keys ms) : wn born ms d = ms ++ (newl born d).map fun x => (x, [x]) := by
  unfold wn
  rw [wn_fold d _ ms (zip_nodup born) fun p hp e => h _ (newl_mem.mpr ⟨p.2, rfl, by rw [← e]; exact List.mem_zipIdx_iff_getElem?.mp hp⟩)]
  unfold newl
  rw [List.map_map]
  rfl

/-! ### what holds of lines -/
structure LOk (ms : Lns) : Prop where
  knd : (keys ms).Nodup
  srt : ∀ m ∈ ms, m.2.Pairwise (· < ·) ∧ m.2.head? = some m.1
  dis : ∀ m ∈ ms, ∀ m' ∈ ms, ∀ x, x ∈ m.2 → x ∈ m'.2 → m = m'
theorem LOk.nil : LOk [] := ⟨.nil, fun _ h => (by cases h), fun _ h => (by cases h)⟩
theorem LOk.kin {ms : Lns} (h : LOk ms) {m : Int × List Int} (hm : m ∈ ms) : m.1 ∈ m.2 := List.mem_of_mem_head? (h.srt m hm).2
theorem lok_look {ms : Lns} (h : LOk ms) {m : Int × List Int} (hm : m ∈ ms) : look ms m.1 = m.2 := look_mem h.knd hm
/-- a leaf of a line is not below its name -/
theorem LOk.low {ms : Lns} (h : LOk ms) {m : Int × List Int} (hm : m ∈ ms) {x : Int} (hx : x ∈ m.2) : m.1 ≤ x := by
  obtain ⟨h1, h2⟩ := h.srt m hm
  cases e : m.2 with
  | nil => rw [e] at hx; cases hx
  | cons a r =>
    rw [e] at h1 h2 hx
    have ea : a = m.1 := by simpa using h2
    rcases List.mem_cons.mp hx with q | q
    · omega
    · have := (List.pairwise_cons.mp h1).1 x q; omega
/-- all leaves are born ahead of day d -/
def Bn (born : List Int) (ms : Lns) (d : Int) : Prop := ∀ m ∈ ms, ∀ x ∈ m.2, ∃ (i : Nat) (b : Int), x = i ∧ born[i]? = some b ∧ b < d
theorem Bn.new {born : List Int} {ms : Lns} {d : Int} (h : Bn born ms d) (k : LOk ms) : ∀ x ∈ newl born d, x ∉ keys ms := by
  intro x hx hk
  obtain ⟨m, hm, e⟩ := List.mem_map.mp hk
  obtain ⟨i, b, e1, e2, e3⟩ := h m hm m.1 (k.kin hm)
  obtain ⟨j, f1, f2⟩ := newl_mem.mp hx
  have : i = j := by omega
  subst this
  rw [e2] at f2
  have : b = d := by simpa using f2
  omega
theorem lok_wn {born : List Int} {ms : Lns} {d : Int} (k : LOk ms) (h : Bn born ms d) : LOk (wn born ms d) ∧ Bn born (wn born ms d) (d + 1) := by
  rw [wn_eq (h.new k)]
  have old : ∀ m ∈ ms, ∀ x ∈ m.2, x ∉ newl born d := fun m hm x hx hn => by
    obtain ⟨i, b, e1, e2, e3⟩ := h m hm x hx
    obtain ⟨j, f1, f2⟩ := newl_mem.mp hn
    have : i = j := by omega
    subst this
    rw [e2] at f2
    have : b = d := by simpa using f2
    omega
  refine ⟨⟨?_, fun m hm => ?_, fun m hm m' hm' x hx hx' => ?_⟩, fun m hm x hx => ?_⟩
  · unfold keys
    rw [List.map_append, List.map_map]
    refine List.nodup_append.mpr ⟨k.knd, ?_, ?_⟩
    · have : ((·.1) ∘ fun x : Int => (x, [x])) = id := rfl
      rw [this, List.map_id]
      exact lt_nodup (newl_lt born d)
    · intro a ha b hb e
      subst e
      obtain ⟨x, hx, e⟩ := List.mem_map.mp hb
      have : x = a := e
      subst this
      exact h.new k x hx ha
  · rcases List.mem_append.mp hm with q | q
    · exact k.srt m q
    · obtain ⟨x, hx, rfl⟩ := List.mem_map.mp q
      simp
  · rcases List.mem_append.mp hm with q | q
    · rcases List.mem_append.mp hm' with r | r
      · exact k.dis m q m' r x hx hx'
      · obtain ⟨y, hy, rfl⟩ := List.mem_map.mp r
        have : x = y := by simpa using hx'
        subst this
        exact absurd hy (old m q x hx)
    · obtain ⟨y, hy, rfl⟩ := List.mem_map.mp q
      have : x = y := by simpa using hx
      subst this
      rcases List.mem_append.mp hm' with r | r
      · exact absurd hy (old m' r x hx')
      · obtain ⟨z, hz, rfl⟩ := List.mem_map.mp r
        have : x = z := by simpa using hx'
        subst this
        rfl
  · rcases List.mem_append.mp hm with q | q
    · obtain ⟨i, b, e1, e2, e3⟩ := h m q x hx
      exact ⟨i, b, e1, e2, by omega⟩
    · obtain ⟨y, hy, rfl⟩ := List.mem_map.mp q
      have : x = y := by simpa using hx
      subst this
      obtain ⟨j, f1, f2⟩ := newl_mem.mp hy
      exact ⟨j, d, f1, f2, by omega⟩

/-! ### a row -/
structure RowOk (ks p : List Int) (row : List (List Int)) : Prop where
  asc : ∀ g ∈ row, g.Pairwise (· < ·)
  sub : ∀ g ∈ row, ∀ x ∈ g, x ∈ ks
  nd : row.flatten.Nodup
  ord : row.Pairwise (fun g h => lx g h = true)
  szs : (isort (row.map fun g => (g.length : Int))).reverse = p
  ne : ∀ g ∈ row, g ≠ []
theorem RowOk.congr {ks ks' p : List Int} {row : List (List Int)} (h : RowOk ks p row) (e : ∀ x, x ∈ ks → x ∈ ks') : RowOk ks' p row :=
  ⟨h.asc, fun g hg x hx => e x (h.sub g hg x hx), h.nd, h.ord, h.szs, h.ne⟩
theorem pop_fold : ∀ (g : List Int) (ms : Lns) (met : List Int), g.Nodup → g.foldl popS (ms, met) = (ms.filter fun m => decide (m.1 ∉ g), met ++ g.flatMap (look ms))
  | [], ms, met, _ => by
    show (ms, met) = _
    rw [List.flatMap_nil, List.append_nil]
    have : (ms.filter fun m => decide (m.1 ∉ ([] : List Int))) = ms := List.filter_eq_self.mpr fun m _ => by simp
    rw [this]
  | x :: g, ms, met, nd => by
    have nd' := List.pairwise_cons.mp nd
    rw [List.foldl_cons]
    show g.foldl popS (drop ms x, met ++ look ms x) = _
    rw [pop_fold g _ _ nd'.2]
    refine Prod.ext ?_ ?_
    · show (drop ms x).filter _ = _
      unfold drop
      rw [List.filter_filter]
      congr 1
      funext m
      simp only [List.mem_cons, ne_eq, not_or, Bool.decide_and]
      rw [Bool.and_comm]
    · show met ++ look ms x ++ g.flatMap (look (drop ms x)) = met ++ (x :: g).flatMap (look ms)
      rw [List.flatMap_cons, List.append_assoc]
      congr 2
      have : ∀ k ∈ g, look (drop ms x) k = look ms k := fun k hk => by
        unfold drop
        exact look_filter (fun z => decide (z ≠ x)) k (decide_eq_true fun e => nd'.1 k hk e.symm) ms
      clear nd nd'
      induction g with
      | nil => rfl
      | cons a g ih => rw [List.flatMap_cons, List.flatMap_cons, this a List.mem_cons_self, ih fun k hk => this k (List.mem_cons_of_mem _ hk)]
theorem hd_mem {g : List Int} (h : g ≠ []) : g.headD 0 ∈ g := by
  cases g with
  | nil => exact absurd rfl h
  | cons a g => simp
theorem bg_eq {ms : Lns} {g : List Int} (nd : g.Nodup) (ne : g ≠ []) : bg ms g = (ms.filter fun m => decide (m.1 ∉ g)) ++ [(g.headD 0, isort (g.flatMap (look ms)))] := by
  unfold bg
  rw [pop_fold g ms [] nd]
  show put (ms.filter fun m => decide (m.1 ∉ g)) _ (isort ([] ++ _)) = _
  rw [List.nil_append, put_new]
  intro h
  obtain ⟨m, hm, e⟩ := List.mem_map.mp h
  have := of_decide_eq_true (List.mem_filter.mp hm).2
  rw [e] at this
  exact this (hd_mem ne)
/-- the leaves of a group's lines -/
theorem flat_nodup {ms : Lns} (k : LOk ms) : ∀ {g : List Int}, g.Nodup → (∀ x ∈ g, x ∈ keys ms) → (g.flatMap (look ms)).Nodup
  | [], _, _ => by simp
  | x :: g, nd, hs => by
    have nd' := List.pairwise_cons.mp nd
    have mx := look_in (hs x List.mem_cons_self)
    rw [List.flatMap_cons]
    refine List.nodup_append.mpr ⟨lt_nodup (k.srt _ mx).1, flat_nodup k nd'.2 fun y hy => hs y (List.mem_cons_of_mem _ hy), ?_⟩
    intro a ha b hb e
    subst e
    obtain ⟨y, hy, hay⟩ := List.mem_flatMap.mp hb
    have my := look_in (hs y (List.mem_cons_of_mem _ hy))
    have e := k.dis _ mx _ my a ha hay
    have e1 : x = y := congrArg Prod.fst e
    exact nd'.1 y hy e1
theorem head_min {l : List Int} {a : Int} (s : l.Pairwise (· < ·)) (ha : a ∈ l) (h : ∀ x ∈ l, a ≤ x) : l.head? = some a := by
  cases l with
  | nil => cases ha
  | cons b l =>
    have h1 := h b List.mem_cons_self
    rcases List.mem_cons.mp ha with q | q
    · simp [q]
    · have := (List.pairwise_cons.mp s).1 a q; omega
theorem hd_le {g : List Int} (s : g.Pairwise (· < ·)) {x : Int} (hx : x ∈ g) : g.headD 0 ≤ x := by
  cases g with
  | nil => cases hx
  | cons a g =>
    rcases List.mem_cons.mp hx with q | q
    · simp [q]
    · have := (List.pairwise_cons.mp s).1 x q; simp; omega
theorem lok_bg {born : List Int} {d : Int} {ms : Lns} {g : List Int} (k : LOk ms) (b : Bn born ms d) (asc : g.Pairwise (· < ·)) (sub : ∀ x ∈ g, x ∈ keys ms) (ne : g ≠ []) : LOk (bg ms g) ∧ Bn born (bg ms g) d := by
  have nd := lt_nodup asc
  have fn := flat_nodup k nd sub
  rw [bg_eq nd ne]
  have hdk := sub _ (hd_mem ne)
  have mh := look_in hdk
  refine ⟨⟨?_, fun m hm => ?_, fun m hm m' hm' x hx hx' => ?_⟩, fun m hm x hx => ?_⟩
  · unfold keys
    rw [List.map_append]
    refine List.nodup_append.mpr ⟨?_, by simp, ?_⟩
    · exact List.Sublist.nodup (List.Sublist.map (fun m : Int × List Int => m.1) List.filter_sublist) k.knd
    · intro a ha c hc e
      subst e
      obtain ⟨m, hm, e⟩ := List.mem_map.mp ha
      have h1 := of_decide_eq_true (List.mem_filter.mp hm).2
      have h2 : a = g.headD 0 := by simpa using hc
      rw [e, h2] at h1
      exact h1 (hd_mem ne)
  · rcases List.mem_append.mp hm with q | q
    · exact k.srt m (List.mem_filter.mp q).1
    · have e : m = (g.headD 0, isort (g.flatMap (look ms))) := by simpa using q
      subst e
      refine ⟨isort_lt fn, head_min (isort_lt fn) ?_ ?_⟩
      · exact isort_mem.mpr (List.mem_flatMap.mpr ⟨_, hd_mem ne, k.kin mh⟩)
      · intro x hx
        obtain ⟨y, hy, hxy⟩ := List.mem_flatMap.mp (isort_mem.mp hx)
        have := k.low (look_in (sub y hy)) hxy
        have := hd_le asc hy
        simp at *
        omega
  · have key : ∀ m ∈ (ms.filter fun m => decide (m.1 ∉ g)), ∀ x, x ∈ m.2 → x ∉ isort (g.flatMap (look ms)) := fun m hm x hx hn => by
      obtain ⟨y, hy, hxy⟩ := List.mem_flatMap.mp (isort_mem.mp hn)
      have e := k.dis m (List.mem_filter.mp hm).1 _ (look_in (sub y hy)) x hx hxy
      have h1 := of_decide_eq_true (List.mem_filter.mp hm).2
      rw [congrArg Prod.fst e] at h1
      exact h1 hy
    rcases List.mem_append.mp hm with q | q
    · rcases List.mem_append.mp hm' with r | r
      · exact k.dis m (List.mem_filter.mp q).1 m' (List.mem_filter.mp r).1 x hx hx'
      · have e : m' = (g.headD 0, isort (g.flatMap (look ms))) := by simpa using r
        subst e
        exact absurd hx' (key m q x hx)
    · have e : m = (g.headD 0, isort (g.flatMap (look ms))) := by simpa using q
      subst e
      rcases List.mem_append.mp hm' with r | r
      · exact absurd hx (key m' r x hx')
      · have e : m' = (g.headD 0, isort (g.flatMap (look ms))) := by simpa using r
        exact e.symm
  · rcases List.mem_append.mp hm with q | q
    · exact b m (List.mem_filter.mp q).1 x hx
    · have e : m = (g.headD 0, isort (g.flatMap (look ms))) := by simpa using q
      subst e
      obtain ⟨y, hy, hxy⟩ := List.mem_flatMap.mp (isort_mem.mp hx)
      exact b _ (look_in (sub y hy)) x hxy
theorem bg_keys {ms : Lns} {g : List Int} (nd : g.Nodup) (ne : g ≠ []) {x : Int} (hx : x ∈ keys ms) (hg : x ∉ g) : x ∈ keys (bg ms g) ∧ look (bg ms g) x = look ms x := by
  rw [bg_eq nd ne]
  have h : x ∈ keys (ms.filter fun m => decide (m.1 ∉ g)) := by
    obtain ⟨m, hm, e⟩ := List.mem_map.mp hx
    exact List.mem_map.mpr ⟨m, List.mem_filter.mpr ⟨hm, by rw [decide_eq_true_eq, e]; exact hg⟩, e⟩
  refine ⟨?_, ?_⟩
  · unfold keys at h ⊢
    rw [List.map_append]
    exact List.mem_append_left _ h
  · rw [look_append, if_pos h]
    exact look_filter (fun z => decide (z ∉ g)) x (decide_eq_true hg) ms
/-- what a row makes of lines -/
structure BrOk (born : List Int) (d : Int) (ms : Lns) (row : List (List Int)) : Prop where
  ok : LOk (br ms row)
  bn : Bn born (br ms row) d
  mem : ∀ k l, (k, l) ∈ br ms row ↔ ((k, l) ∈ ms ∧ k ∉ row.flatten) ∨ ∃ g ∈ row, k = g.headD 0 ∧ l = isort (g.flatMap (look ms))
theorem br_ok {born : List Int} {d : Int} : ∀ {row : List (List Int)} {ms : Lns}, LOk ms → Bn born ms d → (∀ g ∈ row, g.Pairwise (· < ·)) → (∀ g ∈ row, ∀ x ∈ g, x ∈ keys ms) → row.flatten.Nodup → (∀ g ∈ row, g ≠ []) → BrOk born d ms row
  | [], ms, k, b, _, _, _, _ => ⟨k, b, fun x l => by simp [br]⟩
  | g :: row, ms, k, b, asc, sub, nd, ne => by
    have ag := asc g List.mem_cons_self
    have ng := lt_nodup ag
    have eg := ne g List.mem_cons_self
    have sg := sub g List.mem_cons_self
    obtain ⟨k1, b1⟩ := lok_bg k b ag sg eg
    rw [List.flatten_cons] at nd
    obtain ⟨nd1, nd2, nd3⟩ := List.nodup_append.mp nd
    have out : ∀ h ∈ row, ∀ x ∈ h, x ∉ g := fun h hh x hx hg => nd3 x hg x (List.mem_flatten.mpr ⟨h, hh, hx⟩) rfl
    have ih := br_ok (row := row) (ms := bg ms g) k1 b1 (fun h hh => asc h (List.mem_cons_of_mem _ hh))
      (fun h hh x hx => (bg_keys ng eg (sub h (List.mem_cons_of_mem _ hh) x hx) (out h hh x hx)).1) nd2 (fun h hh => ne h (List.mem_cons_of_mem _ hh))
    have fl : ∀ h ∈ row, h.flatMap (look (bg ms g)) = h.flatMap (look ms) := fun h hh => by
      have : ∀ x ∈ h, look (bg ms g) x = look ms x := fun x hx => (bg_keys ng eg (sub h (List.mem_cons_of_mem _ hh) x hx) (out h hh x hx)).2
      clear sub ne asc out ih nd nd2 nd3 hh
      induction h with
      | nil => rfl
      | cons a h ih => rw [List.flatMap_cons, List.flatMap_cons, this a List.mem_cons_self, ih fun k hk => this k (List.mem_cons_of_mem _ hk)]
    refine ⟨ih.ok, ih.bn, fun x l => ?_⟩
    refine Iff.trans (ih.mem x l) ?_
    rw [bg_eq ng eg, List.mem_append, List.mem_filter, List.mem_singleton, List.flatten_cons, List.mem_append]
    constructor
    · rintro (⟨⟨h1, h2⟩ | h1, h3⟩ | ⟨h, hh, h1, h2⟩)
      · exact .inl ⟨h1, fun q => q.elim (fun z => absurd z (of_decide_eq_true h2)) h3⟩
      · exact .inr ⟨g, List.mem_cons_self, congrArg Prod.fst h1, congrArg Prod.snd h1⟩
      · exact .inr ⟨h, List.mem_cons_of_mem _ hh, h1, by rw [h2, ← bg_eq ng eg, fl h hh]⟩
    · rintro (⟨h1, h2⟩ | ⟨h, hh, h1, h2⟩)
      · exact .inl ⟨.inl ⟨h1, by rw [decide_eq_true_eq]; exact fun q => h2 (.inl q)⟩, fun q => h2 (.inr q)⟩
      · rcases List.mem_cons.mp hh with rfl | hh
        · refine .inl ⟨.inr (by rw [h1, h2]), fun q => ?_⟩
          rw [h1] at q
          exact nd3 _ (hd_mem eg) _ q rfl
        · exact .inr ⟨h, hh, h1, by rw [h2, ← bg_eq ng eg, fl h hh]⟩
theorem rok_br {born : List Int} {d : Int} {ms : Lns} {p : List Int} {row : List (List Int)} (r : RowOk (keys ms) p row) (k : LOk ms) (b : Bn born ms d) : BrOk born d ms row :=
  br_ok k b r.asc r.sub r.nd r.ne
end Dl

/-! Renaming -/
namespace Dl
structure Ren (born born' : List Int) (π : Int → Int) : Prop where
  inj : ∀ i j : Nat, i < born.length → j < born.length → π i = π j → i = j
  to : ∀ (i : Nat) (b : Int), born[i]? = some b → ∃ j : Nat, π i = j ∧ born'[j]? = some b
  fro : ∀ (j : Nat) (b : Int), born'[j]? = some b → ∃ i : Nat, π i = j ∧ born[i]? = some b
def Rn (π : Int → Int) (ms ms' : Lns) : Prop := ∀ k' l', (k', l') ∈ ms' ↔ ∃ m ∈ ms, l' = isort (m.2.map π) ∧ l'.head? = some k'
/-- the name of the renamed line -/
def phi (ms : Lns) (π : Int → Int) (k : Int) : Int := (isort ((look ms k).map π)).headD 0
def rrow (ms : Lns) (π : Int → Int) (row : List (List Int)) : List (List Int) := rsort (row.map fun g => isort (g.map (phi ms π)))
theorem head_of {l : List Int} (h : l ≠ []) : l.head? = some (l.headD 0) := by
  cases l with
  | nil => exact absurd rfl h
  | cons a l => rfl
theorem isort_ne {l : List Int} (h : l ≠ []) : isort l ≠ [] := fun e => by
  have := isort_len l
  rw [e] at this
  exact h (List.length_eq_zero_iff.mp this.symm)
section
variable {born born' : List Int} {π : Int → Int} {d : Int} {ms ms' : Lns}
theorem Ren.on (R : Ren born born' π) (b : Bn born ms d) {m m' : Int × List Int} (hm : m ∈ ms) (hm' : m' ∈ ms) {x y : Int} (hx : x ∈ m.2) (hy : y ∈ m'.2) (e : π x = π y) : x = y := by
  obtain ⟨i, a, e1, e2, _⟩ := b m hm x hx
  obtain ⟨j, c, f1, f2, _⟩ := b m' hm' y hy
  subst e1 f1
  have h1 := (List.getElem?_eq_some_iff.mp e2).1
  have h2 := (List.getElem?_eq_some_iff.mp f2).1
  rw [R.inj i j h1 h2 e]
theorem rn_wn (R : Ren born born' π) (k : LOk ms) (b : Bn born ms d) (k' : LOk ms') (b' : Bn born' ms' d) (r : Rn π ms ms') : Rn π (wn born ms d) (wn born' ms' d) := by
  rw [wn_eq (b.new k), wn_eq (b'.new k')]
  intro q l
  constructor
  · intro h
    rcases List.mem_append.mp h with h | h
    · obtain ⟨m, hm, e1, e2⟩ := (r q l).mp h
      exact ⟨m, List.mem_append_left _ hm, e1, e2⟩
    · obtain ⟨y, hy, e⟩ := List.mem_map.mp h
      obtain ⟨j, f1, f2⟩ := newl_mem.mp hy
      obtain ⟨i, g1, g2⟩ := R.fro j d f2
      have e1 : q = y := (congrArg Prod.fst e).symm
      have e2 : l = [y] := (congrArg Prod.snd e).symm
      refine ⟨((i : Int), [(i : Int)]), List.mem_append_right _ (List.mem_map.mpr ⟨(i : Int), newl_mem.mpr ⟨i, rfl, g2⟩, rfl⟩), ?_, ?_⟩
      · rw [e2, f1, ← g1]; rfl
      · rw [e2, e1]; rfl
  · rintro ⟨m, hm, e1, e2⟩
    rcases List.mem_append.mp hm with h | h
    · exact List.mem_append_left _ ((r q l).mpr ⟨m, h, e1, e2⟩)
    · obtain ⟨x, hx, rfl⟩ := List.mem_map.mp h
      obtain ⟨i, f1, f2⟩ := newl_mem.mp hx
      obtain ⟨j, g1, g2⟩ := R.to i d f2
      have e3 : l = [π x] := e1
      have e4 : π x = q := by rw [e3] at e2; simpa using e2
      refine List.mem_append_right _ (List.mem_map.mpr ⟨π x, newl_mem.mpr ⟨j, by rw [f1]; exact g1, g2⟩, ?_⟩)
      rw [e3, ← e4]
theorem rn_look (k : LOk ms) (k' : LOk ms') (r : Rn π ms ms') {x : Int} (hx : x ∈ keys ms) : (phi ms π x, isort ((look ms x).map π)) ∈ ms' ∧ look ms' (phi ms π x) = isort ((look ms x).map π) := by
  have mx := look_in hx
  have ne : (look ms x).map π ≠ [] := fun e => by
    have h := k.kin mx
    have : look ms x = [] := List.map_eq_nil_iff.mp e
    rw [this] at h
    cases h
  have h : (phi ms π x, isort ((look ms x).map π)) ∈ ms' := (r _ _).mpr ⟨_, mx, rfl, head_of (isort_ne ne)⟩
  exact ⟨h, look_mem k'.knd h⟩
theorem phi_inj (R : Ren born born' π) (k : LOk ms) (b : Bn born ms d) (k' : LOk ms') (r : Rn π ms ms') {x y : Int} (hx : x ∈ keys ms) (hy : y ∈ keys ms) (e : phi ms π x = phi ms π y) : x = y := by
  obtain ⟨h1, h2⟩ := rn_look k k' r hx
  obtain ⟨g1, g2⟩ := rn_look k k' r hy
  rw [e, g2] at h2
  have mx := look_in hx
  have my := look_in hy
  have q : π x ∈ isort ((look ms x).map π) := isort_mem.mpr (List.mem_map_of_mem (k.kin mx))
  rw [← h2] at q
  obtain ⟨z, hz, ez⟩ := List.mem_map.mp (isort_mem.mp q)
  have exz : z = x := R.on b my mx hz (k.kin mx) ez
  subst exz
  exact congrArg Prod.fst (k.dis _ mx _ my z (k.kin mx) hz)
theorem phi_key (k : LOk ms) (k' : LOk ms') (r : Rn π ms ms') {x : Int} (hx : x ∈ keys ms) : phi ms π x ∈ keys ms' := List.mem_map.mpr ⟨_, (rn_look k k' r hx).1, rfl⟩
/-- every line of the renamed ones is one -/
theorem phi_sur (k : LOk ms) (k' : LOk ms') (r : Rn π ms ms') {q : Int} {l : List Int} (h : (q, l) ∈ ms') : ∃ x ∈ keys ms, q = phi ms π x ∧ l = isort ((look ms x).map π) := by
  obtain ⟨m, hm, e1, e2⟩ := (r q l).mp h
  refine ⟨m.1, List.mem_map_of_mem hm, ?_, ?_⟩
  · unfold phi
    rw [lok_look k hm, ← e1]
    cases l with
    | nil => cases e2
    | cons a l => simpa using e2.symm
  · rw [lok_look k hm]; exact e1
theorem map_nodup {f : Int → Int} : ∀ {l : List Int}, l.Nodup → (∀ x ∈ l, ∀ y ∈ l, f x = f y → x = y) → (l.map f).Nodup
  | [], _, _ => by simp
  | a :: l, nd, h => by
    have nd' := List.pairwise_cons.mp nd
    rw [List.map_cons]
    refine List.pairwise_cons.mpr ⟨fun z hz e => ?_, map_nodup nd'.2 fun x hx y hy => h x (List.mem_cons_of_mem _ hx) y (List.mem_cons_of_mem _ hy)⟩
    obtain ⟨y, hy, ey⟩ := List.mem_map.mp hz
    have := h a List.mem_cons_self y (List.mem_cons_of_mem _ hy) (e.trans ey.symm)
    exact nd'.1 y hy this
theorem flat_perm {f : List Int → List Int} (hf : ∀ g, (f g).Perm g) : ∀ l : List (List Int), (l.map f).flatten.Perm l.flatten
  | [] => .refl _
  | g :: l => by
    rw [List.map_cons, List.flatten_cons, List.flatten_cons]
    exact (hf g).append (flat_perm hf l)
theorem rrow_perm (row : List (List Int)) : (rrow ms π row).Perm (row.map fun g => isort (g.map (phi ms π))) := rsort_perm _
theorem rrow_flat (row : List (List Int)) : (rrow ms π row).flatten.Perm (row.flatten.map (phi ms π)) := by
  refine (rrow_perm row).flatten.trans ?_
  have : (row.map fun g => isort (g.map (phi ms π))) = (row.map fun g => g.map (phi ms π)).map isort := by rw [List.map_map]; rfl
  rw [this]
  refine (flat_perm isort_perm _).trans ?_
  rw [List.map_flatten]
theorem rrow_mem {row : List (List Int)} {g' : List Int} : g' ∈ rrow ms π row ↔ ∃ g ∈ row, g' = isort (g.map (phi ms π)) := by
  rw [(rrow_perm row).mem_iff, List.mem_map]
  constructor
  · rintro ⟨g, hg, e⟩; exact ⟨g, hg, e.symm⟩
  · rintro ⟨g, hg, e⟩; exact ⟨g, hg, e.symm⟩
theorem flat_sub {ks p : List Int} {row : List (List Int)} (o : RowOk ks p row) : ∀ x ∈ row.flatten, x ∈ ks := fun x hx => by
  obtain ⟨g, hg, h⟩ := List.mem_flatten.mp hx
  exact o.sub g hg x h
theorem rows_nodup : ∀ {row : List (List Int)}, row.flatten.Nodup → (∀ g ∈ row, g ≠ []) → row.Nodup
  | [], _, _ => .nil
  | g :: row, nd, ne => by
    rw [List.flatten_cons] at nd
    obtain ⟨_, nd2, nd3⟩ := List.nodup_append.mp nd
    refine List.pairwise_cons.mpr ⟨fun h hh e => ?_, rows_nodup nd2 fun h hh => ne h (List.mem_cons_of_mem _ hh)⟩
    subst e
    exact nd3 _ (hd_mem (ne g List.mem_cons_self)) _ (List.mem_flatten.mpr ⟨g, hh, hd_mem (ne g List.mem_cons_self)⟩) rfl
theorem rrow_ok (R : Ren born born' π) (k : LOk ms) (b : Bn born ms d) (k' : LOk ms') (r : Rn π ms ms') {p : List Int} {row : List (List Int)} (o : RowOk (keys ms) p row) : RowOk (keys ms') p (rrow ms π row) := by
  have inj : ∀ x ∈ row.flatten, ∀ y ∈ row.flatten, phi ms π x = phi ms π y → x = y := fun x hx y hy e => phi_inj R k b k' r (flat_sub o x hx) (flat_sub o y hy) e
  have nd : (rrow ms π row).flatten.Nodup := (rrow_flat row).nodup_iff.mpr (map_nodup o.nd inj)
  have ne : ∀ g ∈ rrow ms π row, g ≠ [] := fun g hg => by
    obtain ⟨h, hh, rfl⟩ := rrow_mem.mp hg
    exact isort_ne fun e => o.ne h hh (List.map_eq_nil_iff.mp e)
  refine ⟨fun g hg => ?_, fun g hg x hx => ?_, nd, ?_, ?_, ne⟩
  · obtain ⟨h, hh, rfl⟩ := rrow_mem.mp hg
    refine isort_lt (map_nodup (lt_nodup (o.asc h hh)) fun x hx y hy e => ?_)
    exact inj x (List.mem_flatten.mpr ⟨h, hh, hx⟩) y (List.mem_flatten.mpr ⟨h, hh, hy⟩) e
  · obtain ⟨h, hh, rfl⟩ := rrow_mem.mp hg
    obtain ⟨y, hy, rfl⟩ := List.mem_map.mp (isort_mem.mp hx)
    exact phi_key k k' r (o.sub h hh y hy)
  · have h1 := rsort_srt (row.map fun g => isort (g.map (phi ms π)))
    have h2 : (rrow ms π row).Pairwise (· ≠ ·) := rows_nodup nd ne
    refine (List.pairwise_and_iff.mpr ⟨h1, h2⟩).imp fun {x y} ⟨u, v⟩ => ?_
    cases e : lx x y with
    | true => rfl
    | false => exact absurd (lx_tri x y e u) v
  · rw [← o.szs]
    congr 1
    refine isort_congr ?_
    refine ((rrow_perm row).map _).trans ?_
    rw [List.map_map]
    refine List.Perm.of_eq (List.map_congr_left fun g _ => ?_)
    show ((isort (g.map (phi ms π))).length : Int) = g.length
    rw [isort_len, List.length_map]
theorem flatMap_perm {f g : Int → List Int} : ∀ (l : List Int), (∀ x ∈ l, (f x).Perm (g x)) → (l.flatMap f).Perm (l.flatMap g)
  | [], _ => .refl _
  | a :: l, h => by
    rw [List.flatMap_cons, List.flatMap_cons]
    exact (h a List.mem_cons_self).append (flatMap_perm l fun x hx => h x (List.mem_cons_of_mem _ hx))
/-- the leaves of the renamed group -/
theorem group_flat (k : LOk ms) (k' : LOk ms') (r : Rn π ms ms') {g : List Int} (hs : ∀ x ∈ g, x ∈ keys ms) :
    isort ((isort (g.map (phi ms π))).flatMap (look ms')) = isort ((isort (g.flatMap (look ms))).map π) := by
  refine isort_congr ?_
  refine ((isort_perm (g.map (phi ms π))).flatMap_right (look ms')).trans ?_
  refine List.Perm.trans ?_ ((isort_perm (g.flatMap (look ms))).map π).symm
  rw [List.flatMap_map, List.map_flatMap]
  refine flatMap_perm g fun x hx => ?_
  rw [(rn_look k k' r (hs x hx)).2]
  exact isort_perm _
theorem rn_br (R : Ren born born' π) (k : LOk ms) (b : Bn born ms d) (k' : LOk ms') (b' : Bn born' ms' d) (r : Rn π ms ms') {p : List Int} {row : List (List Int)} (o : RowOk (keys ms) p row) :
    Rn π (br ms row) (br ms' (rrow ms π row)) := by
  have o' := rrow_ok R k b k' r o
  have B := rok_br o k b
  have B' := rok_br o' k' b'
  have memf : ∀ x ∈ keys ms, (phi ms π x ∈ (rrow ms π row).flatten ↔ x ∈ row.flatten) := fun x hx => by
    rw [(rrow_flat row).mem_iff, List.mem_map]
    constructor
    · rintro ⟨y, hy, e⟩
      rw [← phi_inj R k b k' r (flat_sub o y hy) hx e]
      exact hy
    · intro h
      exact ⟨x, h, rfl⟩
  intro q l
  constructor
  · intro h
    have hd := (B'.ok.srt _ h).2
    rcases (B'.mem q l).mp h with ⟨h1, h2⟩ | ⟨g', hg', e1, e2⟩
    · obtain ⟨x, hx, f1, f2⟩ := phi_sur k k' r h1
      refine ⟨(x, look ms x), (B.mem _ _).mpr (.inl ⟨look_in hx, fun z => h2 ?_⟩), f2, hd⟩
      rw [f1]
      exact (memf x hx).mpr z
    · obtain ⟨g, hg, rfl⟩ := rrow_mem.mp hg'
      refine ⟨(g.headD 0, isort (g.flatMap (look ms))), (B.mem _ _).mpr (.inr ⟨g, hg, rfl, rfl⟩), ?_, hd⟩
      rw [e2, group_flat k k' r (o.sub g hg)]
  · rintro ⟨⟨x, y⟩, hm, e1, e2⟩
    rcases (B.mem x y).mp hm with ⟨h1, h2⟩ | ⟨g, hg, f1, f2⟩
    · have hx : x ∈ keys ms := List.mem_map_of_mem (f := (·.1)) h1
      have ey : y = look ms x := (look_mem k.knd h1).symm
      have e1' : l = isort ((look ms x).map π) := by rw [e1, ← ey]
      have eq : q = phi ms π x := by
        unfold phi
        rw [← e1']
        cases l with
        | nil => cases e2
        | cons a l => simpa using e2.symm
      refine (B'.mem q l).mpr (.inl ⟨?_, ?_⟩)
      · rw [eq, e1']; exact (rn_look k k' r hx).1
      · rw [eq]
        exact fun z => h2 ((memf x hx).mp z)
    · have e1' : l = isort ((isort (g.map (phi ms π))).flatMap (look ms')) := by
        rw [group_flat k k' r (o.sub g hg), e1]
        show isort (y.map π) = _
        rw [f2]
      have hm' : ((isort (g.map (phi ms π))).headD 0, l) ∈ br ms' (rrow ms π row) := (B'.mem _ _).mpr (.inr ⟨_, rrow_mem.mpr ⟨g, hg, rfl⟩, rfl, e1'⟩)
      have hd := (B'.ok.srt _ hm').2
      have eq : q = (isort (g.map (phi ms π))).headD 0 := by
        have := e2.symm.trans hd
        simpa using this
      rw [eq]
      exact hm'
end

/-! ### trees -/
structure TreeOk (born : List Int) (days : List (List Int)) (tree : List (List (List Int))) : Prop where
  len : tree.length = days.length
  row : ∀ (d : Nat) (p : List Int) (r : List (List Int)), days[d]? = some p → tree[d]? = some r → RowOk (keys (la born tree d)) p r
def renT (born : List Int) (π : Int → Int) (tree : List (List (List Int))) : List (List (List Int)) := (List.range tree.length).map fun d => rrow (la born tree d) π (tree.getD d [])
theorem renT_len (born : List Int) (π : Int → Int) (tree : List (List (List Int))) : (renT born π tree).length = tree.length := by simp [renT]
theorem renT_at {born : List Int} {π : Int → Int} {tree : List (List (List Int))} {d : Nat} (h : d < tree.length) : (renT born π tree)[d]? = some (rrow (la born tree d) π (tree.getD d [])) := by
  simp [renT, h]
section
variable {born born' : List Int} {π : Int → Int} {days : List (List Int)} {tree : List (List (List Int))}
theorem pre_ok (t : TreeOk born days tree) : ∀ d : Nat, d ≤ tree.length → LOk (pre born tree d) ∧ Bn born (pre born tree d) d
  | 0, _ => ⟨LOk.nil, fun _ h => by cases h⟩
  | d + 1, h => by
    obtain ⟨k, b⟩ := pre_ok t d (by omega)
    obtain ⟨k1, b1⟩ := lok_wn k b
    have hd : d < tree.length := by omega
    have e : tree[d]? = some (tree.getD d []) := by simp [hd]
    have hp : days[d]? = some (days.getD d []) := by have := t.len; simp [show d < days.length by omega]
    have o := t.row d _ _ hp e
    have B := rok_br o k1 b1
    refine ⟨B.ok, ?_⟩
    have e : ((d + 1 : Nat) : Int) = (d : Int) + 1 := by omega
    rw [e]
    exact B.bn
theorem la_ok (t : TreeOk born days tree) (d : Nat) (h : d ≤ tree.length) : LOk (la born tree d) ∧ Bn born (la born tree d) ((d : Int) + 1) := by
  obtain ⟨k, b⟩ := pre_ok t d h
  exact lok_wn k b
/-- what renaming a tree gives -/
structure RenOk (born born' : List Int) (π : Int → Int) (tree tree' : List (List (List Int))) (d : Nat) : Prop where
  k' : LOk (pre born' tree' d)
  b' : Bn born' (pre born' tree' d) d
  r : Rn π (pre born tree d) (pre born' tree' d)
theorem ren_ok (R : Ren born born' π) (t : TreeOk born days tree) : ∀ d : Nat, d ≤ tree.length → RenOk born born' π tree (renT born π tree) d
  | 0, _ => ⟨LOk.nil, (fun _ h => by cases h), (fun q l => by simp [pre])⟩
  | d + 1, h => by
    have ih := ren_ok R t d (by omega)
    obtain ⟨k, b⟩ := pre_ok t d (by omega)
    obtain ⟨k1, b1⟩ := lok_wn k b
    obtain ⟨k1', b1'⟩ := lok_wn ih.k' ih.b'
    have r1 := rn_wn R k b ih.k' ih.b' ih.r
    have hd : d < tree.length := by omega
    have e : tree[d]? = some (tree.getD d []) := by simp [hd]
    have hp : days[d]? = some (days.getD d []) := by have := t.len; simp [show d < days.length by omega]
    have o := t.row d _ _ hp e
    have o' := rrow_ok R k1 b1 k1' r1 o
    have B' := rok_br o' k1' b1'
    have ed : (renT born π tree).getD d [] = rrow (la born tree d) π (tree.getD d []) := by
      rw [List.getD_eq_getElem?_getD, renT_at hd]; rfl
    refine ⟨?_, ?_, ?_⟩
    · show LOk (br (wn born' _ _) _); rw [ed]; exact B'.ok
    · show Bn born' (br (wn born' _ _) _) _
      have e : ((d + 1 : Nat) : Int) = (d : Int) + 1 := by omega
      rw [ed, e]
      exact B'.bn
    · show Rn π (br (wn born _ _) _) (br (wn born' _ _) _)
      rw [ed]
      exact rn_br R k1 b1 k1' b1' r1 o
theorem renT_ok (R : Ren born born' π) (t : TreeOk born days tree) : TreeOk born' days (renT born π tree) := by
  refine ⟨by rw [renT_len]; exact t.len, fun d p r hp hr => ?_⟩
  have hd : d < tree.length := by
    have := (List.getElem?_eq_some_iff.mp hr).1
    rwa [renT_len] at this
  rw [renT_at hd] at hr
  have er : r = _ := (Option.some.inj hr).symm
  have ih := ren_ok R t d (by omega)
  obtain ⟨k, b⟩ := pre_ok t d (by omega)
  obtain ⟨k1, b1⟩ := lok_wn k b
  obtain ⟨k1', b1'⟩ := lok_wn ih.k' ih.b'
  have r1 := rn_wn R k b ih.k' ih.b' ih.r
  have e : tree[d]? = some (tree.getD d []) := by simp [hd]
  rw [er]
  exact rrow_ok R k1 b1 k1' r1 (t.row d p _ hp e)
/-! ### where two leaves meet -/
def lw (ms : Lns) (x : Int) : Option (List Int) := (ms.find? fun m => decide (x ∈ m.2)).map (·.2)
def meets (ms : Lns) (x y : Int) : Bool := match lw ms x with
  | some l => decide (y ∈ l)
  | none => false
def metM (born : List Int) (tree : List (List (List Int))) (x y : Int) (m : Nat) : Option Nat := (List.range m).find? fun d => meets (pre born tree (d + 1)) x y
theorem meets_iff {ms : Lns} (k : LOk ms) (x y : Int) : meets ms x y = true ↔ ∃ m ∈ ms, x ∈ m.2 ∧ y ∈ m.2 := by
  unfold meets lw
  cases e : ms.find? fun m => decide (x ∈ m.2) with
  | none =>
    simp only [Option.map_none]
    constructor
    · intro h; cases h
    · rintro ⟨m, hm, hx, _⟩
      have := List.find?_eq_none.mp e m hm
      exact absurd (decide_eq_true hx) this
  | some m =>
    simp only [Option.map_some, decide_eq_true_eq]
    have hm := List.mem_of_find?_eq_some e
    have hx : x ∈ m.2 := of_decide_eq_true (List.find?_some (p := fun m : Int × List Int => decide (x ∈ m.2)) e)
    constructor
    · intro h; exact ⟨m, hm, hx, h⟩
    · rintro ⟨m', hm', hx', hy⟩
      rw [k.dis m hm m' hm' x hx hx']
      exact hy
theorem find_congr {f g : Nat → Bool} : ∀ {l : List Nat}, (∀ x ∈ l, f x = g x) → l.find? f = l.find? g
  | [], _ => rfl
  | a :: l, h => by
    rw [List.find?_cons, List.find?_cons, h a List.mem_cons_self, find_congr fun x hx => h x (List.mem_cons_of_mem _ hx)]
theorem met_ren (R : Ren born born' π) (t : TreeOk born days tree) {x y : Nat} (hx : x < born.length) (hy : y < born.length) :
    metM born' (renT born π tree) (π x) (π y) days.length = metM born tree x y days.length := by
  unfold metM
  refine find_congr fun d hd => ?_
  have hd' : d + 1 ≤ tree.length := by have := List.mem_range.mp hd; have := t.len; omega
  obtain ⟨k, b⟩ := pre_ok t (d + 1) hd'
  have q := ren_ok R t (d + 1) hd'
  rw [Bool.eq_iff_iff, meets_iff q.k', meets_iff k]
  have at_ : ∀ {m : Int × List Int}, m ∈ pre born tree (d + 1) → ∀ z : Nat, z < born.length → (π z ∈ isort (m.2.map π) ↔ (z : Int) ∈ m.2) := fun {m} hm z hz => by
    rw [isort_mem, List.mem_map]
    constructor
    · rintro ⟨w, hw, e⟩
      obtain ⟨i, c, e1, e2, _⟩ := b m hm w hw
      subst e1
      rw [← R.inj i z (List.getElem?_eq_some_iff.mp e2).1 hz e]
      exact hw
    · intro h
      exact ⟨_, h, rfl⟩
  constructor
  · rintro ⟨⟨p, l⟩, hm, h1, h2⟩
    obtain ⟨m, hm, e1, e2⟩ := (q.r p l).mp hm
    have h1' : π x ∈ l := h1
    have h2' : π y ∈ l := h2
    rw [e1] at h1' h2'
    exact ⟨m, hm, (at_ hm x hx).mp h1', (at_ hm y hy).mp h2'⟩
  · rintro ⟨m, hm, h1, h2⟩
    have ne : m.2.map π ≠ [] := fun e => by
      have : m.2 = [] := List.map_eq_nil_iff.mp e
      rw [this] at h1; cases h1
    exact ⟨_, (q.r _ _).mpr ⟨m, hm, rfl, head_of (isort_ne ne)⟩, (at_ hm x hx).mpr h1, (at_ hm y hy).mpr h2⟩
end
end Dl

/-! Calendars, rows drawn by numbers, renamed births -/
namespace Dl
/-! ### how many lines are alive -/
def nowA (born : List Int) (days : List (List Int)) : Nat → Int
  | 0 => 0
  | i + 1 => nowA born days i + (born.count (i : Int) : Nat) - (days.getD i []).sum + ((days.getD i []).length : Nat)
def alv (born : List Int) (days : List (List Int)) (i : Nat) : Int := nowA born days i + (born.count (i : Int) : Nat)
def cntL (born : List Int) (days : List (List Int)) : List Int := (List.range (days.length + 1)).map (alv born days)
theorem nowA_congr {born born' : List Int} (days : List (List Int)) (h : ∀ b, born.count b = born'.count b) : ∀ i, nowA born days i = nowA born' days i
  | 0 => rfl
  | i + 1 => by simp only [nowA, h, nowA_congr days h i]
theorem cntL_congr {born born' : List Int} (days : List (List Int)) (h : ∀ b, born.count b = born'.count b) : cntL born days = cntL born' days := by
  unfold cntL alv
  refine List.map_congr_left fun i _ => ?_
  rw [nowA_congr days h i, h]
structure CalOk (born : List Int) (days : List (List Int)) : Prop where
  n1 : 1 ≤ born.length
  n12 : born.length ≤ 12
  dl : days.length ≤ 11
  pat : ∀ p ∈ days, Pat p ∧ p ≠ []
  bth : ∀ b ∈ born, 0 ≤ b ∧ b ≤ (days.length : Int)
  eno : ∀ (i : Nat) (p : List Int), days[i]? = some p → p.sum ≤ alv born days i
theorem pat_sum {p : List Int} (h : ∀ s ∈ p, (2 : Int) ≤ s) : (p.length : Int) ≤ p.sum := by
  induction p with
  | nil => simp
  | cons a p ih =>
    have h1 := h a List.mem_cons_self
    have h2 := ih fun s hs => h s (List.mem_cons_of_mem _ hs)
    rw [List.sum_cons, List.length_cons]
    omega
theorem cnt_lt (born : List Int) (i : Int) (h0 : 0 ≤ i) : born.countP (fun b => decide (0 ≤ b ∧ b < i + 1)) = born.countP (fun b => decide (0 ≤ b ∧ b < i)) + born.count i := by
  induction born with
  | nil => rfl
  | cons a r ih =>
    rw [List.countP_cons, List.countP_cons, List.count_cons, ih]
    by_cases h : a = i
    · subst h
      have e1 : decide (0 ≤ a ∧ a < a + 1) = true := decide_eq_true ⟨h0, by omega⟩
      have e2 : decide (0 ≤ a ∧ a < a) = false := decide_eq_false (by omega)
      rw [e1, e2]
      simp
      omega
    · have q : decide (0 ≤ a ∧ a < i + 1) = decide (0 ≤ a ∧ a < i) := by
        have : (0 ≤ a ∧ a < i + 1) ↔ (0 ≤ a ∧ a < i) := by omega
        exact decide_eq_decide.mpr this
      have q2 : (a == i) = false := by simpa using h
      rw [q, q2]
      simp only [Bool.false_eq_true, if_false, Nat.add_zero]
      omega
theorem now_le {born : List Int} {days : List (List Int)} (hp : ∀ p ∈ days, ∀ s ∈ p, (2 : Int) ≤ s) : ∀ i : Nat, nowA born days i ≤ (born.countP (fun b => decide (0 ≤ b ∧ b < (i : Int))) : Nat)
  | 0 => by simp [nowA]
  | i + 1 => by
    have ih := now_le (born := born) hp i
    have q : ((days.getD i []).length : Int) ≤ (days.getD i []).sum := by
      by_cases h : i < days.length
      · refine pat_sum fun s hs => hp (days.getD i []) ?_ s hs
        rw [List.getD_eq_getElem?_getD, List.getElem?_eq_getElem h]
        exact List.getElem_mem h
      · rw [List.getD_eq_getElem?_getD, List.getElem?_eq_none (by omega)]
        simp
    have e : ((i + 1 : Nat) : Int) = (i : Int) + 1 := by omega
    rw [e, cnt_lt born i (by omega)]
    show nowA born days i + _ - _ + _ ≤ _
    omega
theorem alv_le {born : List Int} {days : List (List Int)} (hp : ∀ p ∈ days, ∀ s ∈ p, (2 : Int) ≤ s) (i : Nat) : alv born days i ≤ (born.length : Int) := by
  have h := now_le (born := born) hp i
  have q := cnt_lt born (i : Int) (by omega)
  have r := List.countP_le_length (p := fun b => decide (0 ≤ b ∧ b < (i : Int) + 1)) (l := born)
  unfold alv
  omega
theorem CalOk.alv12 {born : List Int} {days : List (List Int)} (c : CalOk born days) (i : Nat) : alv born days i ≤ 12 := by
  have := alv_le (born := born) (fun p hp => (c.pat p hp).1.two) i
  have := c.n12
  omega
def chkB (p : List Int) (n : Nat) : Bool := decide (1 ≤ waysI n p ∧ waysI n p < 536870912)
theorem chkB1 : ∀ a < 13, ∀ n < 13, (2 ≤ a ∧ a ≤ n) → chkB [(a : Nat)] n = true := by decide +kernel
theorem chkB2 : ∀ a < 13, ∀ b < 13, ∀ n < 13, (2 ≤ b ∧ b ≤ a ∧ a + b ≤ n) → chkB [(a : Nat), (b : Nat)] n = true := by decide +kernel
theorem ways_pos {p : List Int} (h : Pat p) {n : Int} (hs : p.sum ≤ n) (hn : n ≤ 12) (h0 : 0 ≤ n) : 1 ≤ waysI n p ∧ waysI n p < 536870912 := by
  obtain ⟨m, rfl⟩ : ∃ m : Nat, n = m := ⟨n.toNat, by omega⟩
  rcases h.cases with rfl | ⟨a, rfl, h2, h3⟩ | ⟨a, b, rfl, h2, h3, h4⟩
  · rw [ways_nil h0]; omega
  · obtain ⟨a', rfl⟩ : ∃ m : Nat, a = m := ⟨a.toNat, by omega⟩
    simp at hs
    exact of_decide_eq_true (chkB1 a' (by omega) m (by omega) (by omega))
  · obtain ⟨a', rfl⟩ : ∃ m : Nat, a = m := ⟨a.toNat, by omega⟩
    obtain ⟨b', rfl⟩ : ∃ m : Nat, b = m := ⟨b.toNat, by omega⟩
    simp at hs
    exact of_decide_eq_true (chkB2 a' (by omega) b' (by omega) m (by omega) (by omega))
def wayL (born : List Int) (days : List (List Int)) : List Int := (List.range days.length).map fun i => waysI (alv born days i) (days.getD i [])
def sizeI (born : List Int) (days : List (List Int)) : Int := (wayL born days).foldl (· * ·) 1
theorem prod_bd : ∀ (l : List Int) (f : Int) (B : Nat), (∀ x ∈ l, 1 ≤ x ∧ x < 536870912) → 1 ≤ f → f.natAbs < 2 ^ B → 1 ≤ l.foldl (· * ·) f ∧ (l.foldl (· * ·) f).natAbs < 2 ^ (B + 29 * l.length)
  | [], f, B, _, h1, h2 => ⟨h1, by simpa using h2⟩
  | x :: l, f, B, h, h1, h2 => by
    have hx := h x List.mem_cons_self
    have p1 : 1 ≤ f * x := by
      have := Int.mul_le_mul h1 hx.1 (by omega) (by omega)
      omega
    have p2 : (f * x).natAbs < 2 ^ (B + 29) := by
      rw [Int.natAbs_mul, Nat.pow_add]
      exact Nat.mul_lt_mul'' h2 (by omega)
    have := prod_bd l (f * x) (B + 29) (fun y hy => h y (List.mem_cons_of_mem _ hy)) p1 p2
    rw [List.foldl_cons, List.length_cons]
    have e : B + 29 * (l.length + 1) = B + 29 + 29 * l.length := by omega
    rw [e]
    exact this
theorem alv_nn {born : List Int} {days : List (List Int)} (c : CalOk born days) {i : Nat} (h : i < days.length) : 0 ≤ alv born days i := by
  have := c.eno i days[i] (by simp [h])
  have q := pat_sum (c.pat days[i] (List.getElem_mem h)).1.two
  omega
theorem wayL_bd {born : List Int} {days : List (List Int)} (c : CalOk born days) : ∀ x ∈ wayL born days, 1 ≤ x ∧ x < 536870912 := fun x hx => by
  obtain ⟨i, hi, rfl⟩ := List.mem_map.mp hx
  have h : i < days.length := List.mem_range.mp hi
  have e : days[i]? = some (days.getD i []) := by simp [h]
  have hm : days.getD i [] ∈ days := List.mem_of_getElem? e
  exact ways_pos (c.pat _ hm).1 (c.eno i _ e) (c.alv12 i) (alv_nn c h)
theorem size_bd {born : List Int} {days : List (List Int)} (c : CalOk born days) : 1 ≤ sizeI born days ∧ (sizeI born days).natAbs < 2 ^ 400 := by
  have := prod_bd (wayL born days) 1 1 (wayL_bd c) (by omega) (by decide)
  refine ⟨this.1, Nat.lt_of_lt_of_le this.2 (Nat.pow_le_pow_right (by decide) ?_)⟩
  have := c.dl
  simp [wayL]
  omega

/-! ### the births renamed -/
def pl (places : List Int) (x : Int) : Int := places.getD x.toNat 0
def renB (born places : List Int) : List Int := (List.range born.length).map fun (y : Nat) => born.getD (places.idxOf (y : Int)) 0
structure PerOk (n : Nat) (places : List Int) : Prop where
  perm : places.Perm ((List.range n).map fun i : Nat => (i : Int))
theorem PerOk.len {n : Nat} {places : List Int} (h : PerOk n places) : places.length = n := by rw [h.perm.length_eq]; simp
theorem PerOk.nd {n : Nat} {places : List Int} (h : PerOk n places) : places.Nodup := by
  refine h.perm.nodup_iff.mpr ?_
  rw [List.nodup_iff_pairwise_ne, List.pairwise_map]
  exact List.nodup_range.imp fun h e => h (by omega)
theorem PerOk.mem {n : Nat} {places : List Int} (h : PerOk n places) {x : Int} : x ∈ places ↔ ∃ i : Nat, i < n ∧ x = i := by
  rw [h.perm.mem_iff, List.mem_map]
  constructor
  · rintro ⟨i, hi, rfl⟩; exact ⟨i, List.mem_range.mp hi, rfl⟩
  · rintro ⟨i, hi, rfl⟩; exact ⟨i, List.mem_range.mpr hi, rfl⟩
theorem PerOk.pl_at {n : Nat} {places : List Int} (h : PerOk n places) {i : Nat} (hi : i < n) : ∃ j : Nat, j < n ∧ pl places i = j ∧ places[i]? = some (j : Int) := by
  have hl : i < places.length := by rw [h.len]; exact hi
  obtain ⟨j, hj, e⟩ := h.mem.mp (List.getElem_mem hl)
  refine ⟨j, hj, ?_, by rw [List.getElem?_eq_getElem hl, e]⟩
  unfold pl
  rw [List.getD_eq_getElem?_getD, Int.toNat_natCast, List.getElem?_eq_getElem hl, Option.getD_some, e]
theorem idx_at : ∀ {l : List Int} {i : Nat} {x : Int}, l.Nodup → l[i]? = some x → l.idxOf x = i
  | [], i, x, _, h => by simp at h
  | a :: l, 0, x, _, h => by
    have : a = x := by simpa using h
    subst this
    simp
  | a :: l, i + 1, x, nd, h => by
    have nd' := List.pairwise_cons.mp nd
    have h' : l[i]? = some x := by simpa using h
    have ne : a ≠ x := nd'.1 x (List.mem_of_getElem? h')
    rw [List.idxOf_cons]
    have : (a == x) = false := by simpa using ne
    rw [this]
    simp [idx_at nd'.2 h']
theorem PerOk.idx {n : Nat} {places : List Int} (h : PerOk n places) {y : Nat} (hy : y < n) : ∃ i : Nat, i < n ∧ places.idxOf (y : Int) = i ∧ places[i]? = some (y : Int) ∧ pl places i = y := by
  have hm : (y : Int) ∈ places := h.mem.mpr ⟨y, hy, rfl⟩
  obtain ⟨i, hi, e⟩ := List.mem_iff_getElem.mp hm
  have e' : places[i]? = some (y : Int) := by rw [List.getElem?_eq_getElem hi, e]
  refine ⟨i, by rw [← h.len]; exact hi, idx_at h.nd e', e', ?_⟩
  unfold pl
  rw [List.getD_eq_getElem?_getD, Int.toNat_natCast, e', Option.getD_some]
theorem renB_len (born places : List Int) : (renB born places).length = born.length := by simp [renB]
theorem renB_ren {born places : List Int} (h : PerOk born.length places) : Ren born (renB born places) (pl places) := by
  refine ⟨fun i j hi hj e => ?_, fun i b hb => ?_, fun j b hb => ?_⟩
  · obtain ⟨p, _, e1, f1⟩ := h.pl_at hi
    obtain ⟨q, _, e2, f2⟩ := h.pl_at hj
    have : p = q := by omega
    subst this
    rw [← idx_at h.nd f1, ← idx_at h.nd f2]
  · have hi := (List.getElem?_eq_some_iff.mp hb).1
    obtain ⟨j, hj, e1, f1⟩ := h.pl_at hi
    refine ⟨j, e1, ?_⟩
    unfold renB
    rw [List.getElem?_map, List.getElem?_range hj]
    simp only [Option.map_some, Option.some.injEq]
    rw [idx_at h.nd f1, List.getD_eq_getElem?_getD, hb]
    rfl
  · have hj : j < born.length := by rw [← renB_len born places]; exact (List.getElem?_eq_some_iff.mp hb).1
    obtain ⟨i, hi, e1, f1, g1⟩ := h.idx hj
    refine ⟨i, g1, ?_⟩
    unfold renB at hb
    rw [List.getElem?_map, List.getElem?_range hj] at hb
    simp only [Option.map_some, Option.some.injEq] at hb
    rw [e1, List.getD_eq_getElem?_getD, List.getElem?_eq_getElem hi] at hb
    rw [List.getElem?_eq_getElem hi, ← hb]
    rfl
theorem renB_perm {born places : List Int} (h : PerOk born.length places) : (renB born places).Perm born := by
  have e1 : renB born places = (((List.range born.length).map fun i : Nat => (i : Int)).map fun y => born.getD (places.idxOf y) 0) := by
    rw [List.map_map]; rfl
  rw [e1]
  refine (h.perm.symm.map _).trans (List.Perm.of_eq ?_)
  refine List.ext_getElem? fun i => ?_
  rw [List.getElem?_map]
  by_cases hi : i < born.length
  · obtain ⟨j, hj, e, f⟩ := h.pl_at hi
    rw [f, Option.map_some, idx_at h.nd f, List.getD_eq_getElem?_getD, List.getElem?_eq_getElem hi]
    rfl
  · rw [List.getElem?_eq_none (by rw [h.len]; omega), List.getElem?_eq_none (by omega)]
    rfl
theorem renB_cal {born places : List Int} {days : List (List Int)} (h : PerOk born.length places) (c : CalOk born days) : CalOk (renB born places) days := by
  have cc : ∀ b, (renB born places).count b = born.count b := fun b => (renB_perm h).count_eq b
  refine ⟨by rw [renB_len]; exact c.n1, by rw [renB_len]; exact c.n12, c.dl, c.pat, fun b hb => c.bth b ((renB_perm h).mem_iff.mp hb), fun i p e => ?_⟩
  unfold alv
  rw [nowA_congr days cc i, cc]
  exact c.eno i p e

/-! ### names -/
def lost (row : List (List Int)) : List Int := row.flatMap List.tail
def nbh (names : List Int) (row : List (List Int)) : List Int := names.filter fun x => decide (x ∉ lost row)
def nmB (born : List Int) (tree : List (List (List Int))) : Nat → List Int
  | 0 => []
  | d + 1 => nbh (isort (nmB born tree d ++ newl born (d : Nat))) (tree.getD d [])
def nmA (born : List Int) (tree : List (List (List Int))) (d : Nat) : List Int := isort (nmB born tree d ++ newl born (d : Nat))
theorem nmB_app (born : List Int) (t u : List (List (List Int))) : ∀ d : Nat, d ≤ t.length → nmB born (t ++ u) d = nmB born t d
  | 0, _ => rfl
  | d + 1, h => by
    have e : (t ++ u).getD d [] = t.getD d [] := by
      rw [List.getD_eq_getElem?_getD, List.getD_eq_getElem?_getD, List.getElem?_append_left (by omega)]
    simp only [nmB]
    rw [nmB_app born t u d (by omega), e]
structure TrN (born : List Int) (days : List (List Int)) (tree : List (List (List Int))) : Prop where
  len : tree.length ≤ days.length
  row : ∀ (d : Nat) (p : List Int) (r : List (List Int)), days[d]? = some p → tree[d]? = some r → RowOk (nmA born tree d) p r
theorem lost_mem {row : List (List Int)} {x : Int} : x ∈ lost row ↔ ∃ g ∈ row, x ∈ g.tail := List.mem_flatMap
theorem tail_mem {g : List Int} (h : g ≠ []) (nd : g.Nodup) {x : Int} : x ∈ g.tail ↔ x ∈ g ∧ x ≠ g.headD 0 := by
  cases g with
  | nil => exact absurd rfl h
  | cons a g =>
    have nd' := List.pairwise_cons.mp nd
    simp only [List.tail_cons, List.mem_cons, List.headD_cons]
    constructor
    · intro q; exact ⟨.inr q, fun e => nd'.1 x q e.symm⟩
    · rintro ⟨q | q, e⟩
      · exact absurd q e
      · exact q
theorem tails_sub : ∀ row : List (List Int), (lost row).Sublist row.flatten
  | [] => .slnil
  | g :: row => by
    unfold lost
    rw [List.flatMap_cons, List.flatten_cons]
    exact (List.tail_sublist g).append (tails_sub row)
theorem sum_of_perm {a b : List Int} (h : a.Perm b) : a.sum = b.sum := by
  induction h with
  | nil => rfl
  | cons x _ ih => rw [List.sum_cons, List.sum_cons, ih]
  | swap x y l => simp only [List.sum_cons]; omega
  | trans _ _ i1 i2 => exact i1.trans i2
theorem lens_sum : ∀ row : List (List Int), (∀ g ∈ row, g ≠ []) → ((lost row).length : Int) = (row.map fun g => (g.length : Int)).sum - row.length
  | [], _ => by simp [lost]
  | g :: row, h => by
    have ih := lens_sum row fun x hx => h x (List.mem_cons_of_mem _ hx)
    have hg := h g List.mem_cons_self
    have e : (lost (g :: row)).length = g.tail.length + (lost row).length := by unfold lost; rw [List.flatMap_cons, List.length_append]
    have q : 1 ≤ g.length := by
      cases g with
      | nil => exact absurd rfl hg
      | cons a g => simp
    rw [e, List.map_cons, List.sum_cons, List.length_cons, List.length_tail]
    omega
theorem row_sum {ks p : List Int} {row : List (List Int)} (o : RowOk ks p row) : ((lost row).length : Int) = p.sum - p.length := by
  rw [lens_sum row o.ne]
  have h1 : ((row.map fun g => (g.length : Int))).sum = p.sum := by
    rw [← o.szs]
    exact sum_of_perm (((List.reverse_perm _).trans (isort_perm _)).symm)
  have h2 : row.length = p.length := by
    rw [← o.szs, List.length_reverse, isort_len, List.length_map]
  rw [h1, h2]
theorem filt_len : ∀ {l m : List Int}, l.Nodup → m.Nodup → (∀ x ∈ m, x ∈ l) → (l.filter fun x => decide (x ∉ m)).length + m.length = l.length
  | l, [], _, _, _ => by
    have : (l.filter fun x => decide (x ∉ ([] : List Int))) = l := List.filter_eq_self.mpr fun x _ => by simp
    rw [this]; rfl
  | l, a :: m, nl, nm, h => by
    have nm' := List.pairwise_cons.mp nm
    have ha := h a List.mem_cons_self
    have ih := filt_len (l := l.erase a) (m := m) (nl.erase a) nm'.2 fun x hx => (List.mem_erase_of_ne fun e => nm'.1 x hx e.symm).mpr (h x (List.mem_cons_of_mem _ hx))
    have e1 := List.length_erase_of_mem ha
    have pos := List.length_pos_of_mem ha
    have e2 : (l.filter fun x => decide (x ∉ a :: m)) = ((l.erase a).filter fun x => decide (x ∉ m)) := by
      rw [nl.erase_eq_filter, List.filter_filter]
      refine List.filter_congr fun x _ => ?_
      simp only [List.mem_cons, not_or, Bool.decide_and, bne, Bool.and_comm]
      congr 1
      by_cases e : x = a <;> simp [e]
    rw [e2, List.length_cons]
    omega
/-- names behind and ahead of day d: how many, what they are -/
theorem nm_ok {born : List Int} {days : List (List Int)} {tree : List (List (List Int))} (t : TrN born days tree) : ∀ d : Nat, d ≤ tree.length →
    (nmB born tree d).Nodup ∧ ((nmB born tree d).length : Int) = nowA born days d ∧ (∀ x ∈ nmB born tree d, ∃ (i : Nat) (b : Int), x = i ∧ born[i]? = some b ∧ b < (d : Int)) ∧
    (nmA born tree d).Pairwise (· < ·) ∧ ((nmA born tree d).length : Int) = alv born days d := by
  intro d
  have ahead : ∀ d : Nat, (nmB born tree d).Nodup → ((nmB born tree d).length : Int) = nowA born days d → (∀ x ∈ nmB born tree d, ∃ (i : Nat) (b : Int), x = i ∧ born[i]? = some b ∧ b < (d : Int)) →
      (nmA born tree d).Pairwise (· < ·) ∧ ((nmA born tree d).length : Int) = alv born days d := fun d h1 h2 h3 => by
    refine ⟨isort_lt (List.nodup_append.mpr ⟨h1, lt_nodup (newl_lt born d), fun a ha b hb e => ?_⟩), ?_⟩
    · subst e
      obtain ⟨i, c, e1, e2, e3⟩ := h3 a ha
      obtain ⟨j, f1, f2⟩ := newl_mem.mp hb
      have : i = j := by omega
      subst this
      rw [e2] at f2
      have : c = d := by simpa using f2
      omega
    · unfold nmA alv
      rw [isort_len, List.length_append]
      have := newl_len (d : Int) born
      omega
  induction d with
  | zero =>
    intro _
    have h1 : (nmB born tree 0).Nodup := .nil
    have h3 : ∀ x ∈ nmB born tree 0, ∃ (i : Nat) (b : Int), x = i ∧ born[i]? = some b ∧ b < ((0 : Nat) : Int) := fun x hx => by cases hx
    exact ⟨h1, rfl, h3, ahead 0 h1 rfl h3⟩
  | succ d ih =>
    intro h
    obtain ⟨i1, i2, i3, i4, i5⟩ := ih (by omega)
    have hd : d < tree.length := by omega
    have e : tree[d]? = some (tree.getD d []) := by simp [hd]
    have hp : days[d]? = some (days.getD d []) := by have := t.len; simp [show d < days.length by omega]
    have o := t.row d _ _ hp e
    have ln : (lost (tree.getD d [])).Nodup := (tails_sub _).nodup o.nd
    have ls : ∀ x ∈ lost (tree.getD d []), x ∈ nmA born tree d := fun x hx => by
      obtain ⟨g, hg, q⟩ := List.mem_flatten.mp ((tails_sub _).mem hx)
      exact o.sub g hg x q
    have fl := filt_len (lt_nodup i4) ln ls
    have rs := row_sum o
    have h1 : (nmB born tree (d + 1)).Nodup := (lt_nodup i4).filter _
    have h2 : ((nmB born tree (d + 1)).length : Int) = nowA born days (d + 1) := by
      show (((nmA born tree d).filter fun x => decide (x ∉ lost (tree.getD d []))).length : Int) = nowA born days d + (born.count (d : Int) : Nat) - (days.getD d []).sum + ((days.getD d []).length : Nat)
      unfold alv at i5
      omega
    have h3 : ∀ x ∈ nmB born tree (d + 1), ∃ (i : Nat) (b : Int), x = i ∧ born[i]? = some b ∧ b < ((d + 1 : Nat) : Int) := fun x hx => by
      have hx' : x ∈ isort (nmB born tree d ++ newl born (d : Nat)) := (List.mem_filter.mp hx).1
      rcases List.mem_append.mp (isort_mem.mp hx') with q | q
      · obtain ⟨i, b, e1, e2, e3⟩ := i3 x q
        exact ⟨i, b, e1, e2, by omega⟩
      · obtain ⟨j, f1, f2⟩ := newl_mem.mp q
        exact ⟨j, d, f1, f2, by omega⟩
    exact ⟨h1, h2, h3, ahead (d + 1) h1 h2 h3⟩
/-- a tree by names is a tree by lines -/
theorem trN_ok {born : List Int} {days : List (List Int)} {tree : List (List (List Int))} (t : TrN born days tree) (hl : tree.length = days.length) : TreeOk born days tree := by
  have key : ∀ d : Nat, d ≤ tree.length → LOk (pre born tree d) ∧ Bn born (pre born tree d) d ∧ ∀ x, x ∈ keys (pre born tree d) ↔ x ∈ nmB born tree d := by
    intro d
    induction d with
    | zero => exact fun _ => ⟨LOk.nil, (fun _ h => by cases h), fun x => by simp [pre, nmB, keys]⟩
    | succ d ih =>
      intro h
      obtain ⟨k, b, e0⟩ := ih (by omega)
      obtain ⟨k1, b1⟩ := lok_wn k b
      have ea : ∀ x, x ∈ keys (wn born (pre born tree d) d) ↔ x ∈ nmA born tree d := fun x => by
        rw [wn_eq (b.new k)]
        unfold keys nmA
        rw [List.map_append, List.map_map, List.mem_append, isort_mem, List.mem_append]
        have : ((fun m : Int × List Int => m.1) ∘ fun x : Int => (x, [x])) = id := rfl
        rw [this, List.map_id]
        have := e0 x
        unfold keys at this
        rw [this]
      have hd : d < tree.length := by omega
      have e : tree[d]? = some (tree.getD d []) := by simp [hd]
      have hp : days[d]? = some (days.getD d []) := by simp [show d < days.length by omega]
      have o := (t.row d _ _ hp e).congr fun x hx => (ea x).mpr hx
      have B := rok_br o k1 b1
      have e1 : ((d + 1 : Nat) : Int) = (d : Int) + 1 := by omega
      refine ⟨B.ok, by rw [e1]; exact B.bn, fun x => ?_⟩
      show x ∈ keys (br (wn born (pre born tree d) d) (tree.getD d [])) ↔ x ∈ (nmA born tree d).filter fun x => decide (x ∉ lost (tree.getD d []))
      rw [List.mem_filter, ← ea, decide_eq_true_eq]
      have nod := o.nd
      constructor
      · intro hx
        obtain ⟨⟨y, l⟩, hm, ey⟩ := List.mem_map.mp hx
        have ey' : y = x := ey
        subst ey'
        rcases (B.mem y l).mp hm with ⟨h1, h2⟩ | ⟨g, hg, h1, h2⟩
        · exact ⟨List.mem_map_of_mem (f := (·.1)) h1, fun q => h2 ((tails_sub _).mem q)⟩
        · have hyg : y ∈ g := by rw [h1]; exact hd_mem (o.ne g hg)
          refine ⟨o.sub g hg y hyg, fun q => ?_⟩
          obtain ⟨g2, hg2, hy2⟩ := lost_mem.mp q
          have hy2' := (tail_mem (o.ne g2 hg2) (lt_nodup (o.asc g2 hg2))).mp hy2
          have same : g = g2 := by
            have : ∀ {row : List (List Int)}, row.flatten.Nodup → ∀ g ∈ row, ∀ h ∈ row, ∀ z, z ∈ g → z ∈ h → g = h := by
              intro row
              induction row with
              | nil => intro _ g hg; cases hg
              | cons a row ih =>
                intro nd g hg h hh z hz hz'
                rw [List.flatten_cons] at nd
                obtain ⟨_, nd2, nd3⟩ := List.nodup_append.mp nd
                rcases List.mem_cons.mp hg with eg | hg'
                · rcases List.mem_cons.mp hh with eh | hh'
                  · rw [eg, eh]
                  · rw [eg] at hz
                    exact absurd rfl (nd3 z hz z (List.mem_flatten.mpr ⟨h, hh', hz'⟩))
                · rcases List.mem_cons.mp hh with eh | hh'
                  · rw [eh] at hz'
                    exact absurd rfl (nd3 z hz' z (List.mem_flatten.mpr ⟨g, hg', hz⟩))
                  · exact ih nd2 g hg' h hh' z hz hz'
            exact this nod g hg g2 hg2 y hyg hy2'.1
          subst same
          exact hy2'.2 h1
      · rintro ⟨h1, h2⟩
        by_cases q : x ∈ (tree.getD d []).flatten
        · obtain ⟨g, hg, hx⟩ := List.mem_flatten.mp q
          have eh : x = g.headD 0 := Classical.byContradiction fun ne => h2 (lost_mem.mpr ⟨g, hg, (tail_mem (o.ne g hg) (lt_nodup (o.asc g hg))).mpr ⟨hx, ne⟩⟩)
          exact List.mem_map.mpr ⟨_, (B.mem _ _).mpr (.inr ⟨g, hg, rfl, rfl⟩), eh.symm⟩
        · exact List.mem_map.mpr ⟨_, (B.mem _ _).mpr (.inl ⟨look_in h1, q⟩), rfl⟩
  refine ⟨hl, fun d p r hp hr => ?_⟩
  have hd : d < tree.length := (List.getElem?_eq_some_iff.mp hr).1
  obtain ⟨k, b, e0⟩ := key d (by omega)
  refine (t.row d p r hp hr).congr fun x hx => ?_
  show x ∈ keys (wn born (pre born tree d) d)
  rw [wn_eq (b.new k)]
  unfold keys
  rw [List.map_append, List.map_map, List.mem_append]
  have : ((fun m : Int × List Int => m.1) ∘ fun x : Int => (x, [x])) = id := rfl
  rw [this, List.map_id]
  rcases List.mem_append.mp (isort_mem.mp hx) with q | q
  · exact .inl ((e0 x).mpr q)
  · exact .inr q
end Dl

/-! Groups by numbers: what holds between the turns -/
namespace Dl
def laterL (names g : List Int) : List Int := names.filter fun x => decide (g.headD 0 < x ∧ x ∉ g)
structure GOut (names p g : List Int) : Prop where
  sub : g.Sublist names
  ne : g ≠ []
  sz : ((g.length : Nat) : Int) ∈ p
structure GInv (n0 p0 names p : List Int) (found : List (List Int)) : Prop where
  sub : names.Sublist n0
  pat : Pat p
  asc : ∀ g ∈ found, g.Pairwise (· < ·)
  gsub : ∀ g ∈ found, ∀ x ∈ g, x ∈ n0
  ne : ∀ g ∈ found, g ≠ []
  nd : found.flatten.Nodup
  heads : found.Pairwise fun g h => g.headD 0 < h.headD 0
  low : ∀ g ∈ found, ∀ x ∈ names, g.headD 0 < x ∧ x ∉ g
  szs : ((found.map fun g => ((g.length : Nat) : Int)) ++ p).Perm p0
theorem GInv.start {n0 p0 : List Int} (h : Pat p0) : GInv n0 p0 n0 p0 [] :=
  ⟨.refl _, h, (fun _ h => by cases h), (fun _ h => by cases h), (fun _ h => by cases h), .nil, .nil, (fun _ h => by cases h), .refl _⟩
theorem GInv.step {n0 p0 names p : List Int} {found : List (List Int)} {g : List Int} (hn : n0.Pairwise (· < ·)) (I : GInv n0 p0 names p found) (O : GOut names p g) :
    GInv n0 p0 (laterL names g) (p.erase ((g.length : Nat) : Int)) (found ++ [g]) := by
  have gn0 : ∀ x ∈ g, x ∈ names := fun x hx => O.sub.mem hx
  have ag : g.Pairwise (· < ·) := (hn.sublist I.sub).sublist O.sub
  refine ⟨(List.filter_sublist).trans I.sub, (I.pat.erase O.sz).1, fun h hh => ?_, fun h hh x hx => ?_, fun h hh => ?_, ?_, ?_, fun h hh x hx => ?_, ?_⟩
  · rcases List.mem_append.mp hh with q | q
    · exact I.asc h q
    · rw [List.mem_singleton.mp q]; exact ag
  · rcases List.mem_append.mp hh with q | q
    · exact I.gsub h q x hx
    · rw [List.mem_singleton.mp q] at hx; exact I.sub.mem (gn0 x hx)
  · rcases List.mem_append.mp hh with q | q
    · exact I.ne h q
    · rw [List.mem_singleton.mp q]; exact O.ne
  · rw [List.flatten_append]
    refine List.nodup_append.mpr ⟨I.nd, ?_, fun a ha b hb e => ?_⟩
    · simpa using lt_nodup ag
    · subst e
      obtain ⟨h, hh, q⟩ := List.mem_flatten.mp ha
      have hb' : a ∈ g := by simpa using hb
      exact (I.low h hh a (gn0 a hb')).2 q
  · refine List.pairwise_append.mpr ⟨I.heads, by simp, fun h hh k hk => ?_⟩
    rw [List.mem_singleton.mp hk]
    exact (I.low h hh _ (gn0 _ (hd_mem O.ne))).1
  · have hx' := List.mem_filter.mp hx
    rcases List.mem_append.mp hh with q | q
    · exact I.low h q x hx'.1
    · rw [List.mem_singleton.mp q]
      exact of_decide_eq_true hx'.2
  · refine List.Perm.trans ?_ I.szs
    rw [List.map_append, List.append_assoc]
    exact List.Perm.append_left _ (List.perm_cons_erase O.sz).symm
theorem lx_heads {g h : List Int} (hg : g ≠ []) (hh : h ≠ []) (lt : g.headD 0 < h.headD 0) : lx g h = true := by
  cases g with
  | nil => exact absurd rfl hg
  | cons a g =>
    cases h with
    | nil => exact absurd rfl hh
    | cons b h =>
      simp only [List.headD_cons] at lt
      simp only [lx]
      rw [if_neg (by omega)]
      exact decide_eq_true lt
theorem pairwise_mem {R S : List Int → List Int → Prop} : ∀ {l : List (List Int)}, l.Pairwise R → (∀ a ∈ l, ∀ b ∈ l, R a b → S a b) → l.Pairwise S
  | [], _, _ => .nil
  | a :: l, h, f => by
    have h' := List.pairwise_cons.mp h
    exact List.pairwise_cons.mpr ⟨fun b hb => f a List.mem_cons_self b (List.mem_cons_of_mem _ hb) (h'.1 b hb), pairwise_mem h'.2 fun a ha b hb => f a (List.mem_cons_of_mem _ ha) b (List.mem_cons_of_mem _ hb)⟩
theorem GInv.done {n0 p0 names : List Int} {found : List (List Int)} (h0 : Pat p0) (I : GInv n0 p0 names [] found) : RowOk n0 p0 found := by
  refine ⟨I.asc, I.gsub, I.nd, pairwise_mem I.heads fun a ha b hb lt => lx_heads (I.ne a ha) (I.ne b hb) lt, ?_, I.ne⟩
  have q := I.szs
  rw [List.append_nil] at q
  have e : p0.reverse = isort (found.map fun g => ((g.length : Nat) : Int)) := isort_eq ((List.reverse_perm p0).trans q.symm) (by
    rw [List.pairwise_reverse]
    exact h0.srt)
  rw [← e, List.reverse_reverse]
/-- a group begun: its first name at a place, its further ones, and those that may come -/
structure GGo (names : List Int) (at0 : Nat) (g left : List Int) : Prop where
  ex : ∃ x gs, names[at0]? = some x ∧ g = x :: gs ∧ (gs ++ left).Sublist (names.drop (at0 + 1))
theorem GGo.start {names : List Int} {at0 : Nat} {x : Int} (h : names[at0]? = some x) : GGo names at0 [x] (names.drop (at0 + 1)) := ⟨x, [], h, rfl, .refl _⟩
theorem GGo.step {names : List Int} {at0 : Nat} {g left : List Int} {i : Nat} {y : Int} (I : GGo names at0 g left) (h : left[i]? = some y) : GGo names at0 (g ++ [y]) (left.drop (i + 1)) := by
  obtain ⟨x, gs, e1, e2, e3⟩ := I.ex
  refine ⟨x, gs ++ [y], e1, by rw [e2]; rfl, List.Sublist.trans ?_ e3⟩
  rw [List.append_assoc]
  refine List.Sublist.append_left ?_ gs
  obtain ⟨hi, e⟩ := List.getElem?_eq_some_iff.mp h
  have : left.drop i = y :: left.drop (i + 1) := by rw [List.drop_eq_getElem_cons hi, e]
  show (y :: left.drop (i + 1)).Sublist left
  rw [← this]
  exact List.drop_sublist i left
theorem GGo.out {names p : List Int} {at0 : Nat} {g left : List Int} (hn : names.Pairwise (· < ·)) (I : GGo names at0 g left) (hs : ((g.length : Nat) : Int) ∈ p) :
    GOut names p g ∧ (((laterL names g).length : Nat) : Int) = (names.length : Int) - at0 - 1 - g.length + 1 := by
  obtain ⟨x, gs, e1, e2, e3⟩ := I.ex
  obtain ⟨hi, ex⟩ := List.getElem?_eq_some_iff.mp e1
  have ed : names.drop at0 = x :: names.drop (at0 + 1) := by rw [List.drop_eq_getElem_cons hi, ex]
  have gd : gs.Sublist (names.drop (at0 + 1)) := (List.sublist_append_left gs left).trans e3
  have gs' : g.Sublist (names.drop at0) := by rw [ed, e2]; exact gd.cons_cons x
  refine ⟨⟨gs'.trans (List.drop_sublist _ _), by rw [e2]; exact List.cons_ne_nil _ _, hs⟩, ?_⟩
  have hd := hn.sublist (List.drop_sublist at0 names)
  rw [ed] at hd
  have hd' := List.pairwise_cons.mp hd
  have es : names = names.take at0 ++ (x :: names.drop (at0 + 1)) := by rw [← ed, List.take_append_drop]
  have hpre : ∀ y ∈ names.take at0, y < x := fun y hy => by
    have h := hn
    rw [es] at h
    exact (List.pairwise_append.mp h).2.2 y hy x List.mem_cons_self
  have ef : laterL names g = (names.drop (at0 + 1)).filter fun y => decide (y ∉ gs) := by
    unfold laterL
    have hh : g.headD 0 = x := by rw [e2]; rfl
    rw [hh]
    conv => lhs; rw [es]
    rw [List.filter_append, List.filter_cons]
    have z1 : (names.take at0).filter (fun y => decide (x < y ∧ y ∉ g)) = [] := List.filter_eq_nil_iff.mpr fun y hy q => by
      have := hpre y hy
      have := (of_decide_eq_true q).1
      omega
    rw [z1, if_neg (by simp), List.nil_append]
    refine List.filter_congr fun y hy => ?_
    have := hd'.1 y hy
    rw [e2]
    simp only [List.mem_cons, not_or]
    refine decide_eq_decide.mpr ?_
    constructor
    · rintro ⟨_, _, q⟩; exact q
    · intro q; exact ⟨this, by omega, q⟩
  have fl := filt_len (lt_nodup hd'.2) ((lt_nodup hd'.2).sublist gd) fun y hy => gd.mem hy
  have lg : g.length = gs.length + 1 := by rw [e2]; rfl
  have ld : (names.drop (at0 + 1)).length = names.length - (at0 + 1) := List.length_drop
  rw [ef]
  have hle : at0 + 1 ≤ names.length := hi
  omega
end Dl

/-! What the law's calendars are -/
namespace Dl
def red (p : List Int) : Int := p.sum - (p.length : Nat)
def rp (ps : List (List Int)) : Int := (ps.map red).sum
def ordr (M : List Int) (d : Nat) : List Int := (List.range d).flatMap fun j => List.replicate (M.getD j 0).toNat ((j : Nat) : Int)
theorem ordr_succ (M : List Int) (d : Nat) : ordr M (d + 1) = ordr M d ++ List.replicate (M.getD d 0).toNat ((d : Nat) : Int) := by
  unfold ordr
  rw [List.range_succ, List.flatMap_append]
  simp
theorem ordr_mem {M : List Int} {d : Nat} {x : Int} (h : x ∈ ordr M d) : 0 ≤ x ∧ x < (d : Nat) := by
  unfold ordr at h
  obtain ⟨j, hj, hx⟩ := List.mem_flatMap.mp h
  have e := (List.mem_replicate.mp hx).2
  have := List.mem_range.mp hj
  omega
theorem ordr_count (M : List Int) : ∀ (d i : Nat), i < d → (ordr M d).count ((i : Nat) : Int) = (M.getD i 0).toNat
  | 0, _, h => absurd h (Nat.not_lt_zero _)
  | d + 1, i, h => by
    rw [ordr_succ, List.count_append, List.count_replicate]
    by_cases e : i = d
    · subst e
      have : (ordr M i).count ((i : Nat) : Int) = 0 := List.count_eq_zero.mpr fun hm => by have := ordr_mem hm; omega
      rw [this, if_pos (by simp)]
      omega
    · rw [ordr_count M d i (by omega), if_neg (by simp; omega)]
      omega
theorem take_sum {M : List Int} {d : Nat} (h : d < M.length) : (M.take (d + 1)).sum = (M.take d).sum + M.getD d 0 := by
  rw [List.take_succ, List.getElem?_eq_getElem h, List.sum_append, List.getD_eq_getElem?_getD, List.getElem?_eq_getElem h]
  simp
theorem ordr_len {M : List Int} (h : ∀ x ∈ M, 0 ≤ x) : ∀ d : Nat, d ≤ M.length → ((ordr M d).length : Int) = (M.take d).sum
  | 0, _ => by simp [ordr]
  | d + 1, hd => by
    rw [ordr_succ, List.length_append, List.length_replicate, take_sum (by omega), ← ordr_len h d (by omega)]
    have : 0 ≤ M.getD d 0 := by
      rw [List.getD_eq_getElem?_getD, List.getElem?_eq_getElem (by omega)]
      exact h _ (List.getElem_mem _)
    omega
theorem sum_nn : ∀ {l : List Int}, (∀ x ∈ l, 0 ≤ x) → 0 ≤ l.sum
  | [], _ => by simp
  | a :: l, h => by
    have h1 := h a List.mem_cons_self
    have h2 := sum_nn fun x hx => h x (List.mem_cons_of_mem a hx)
    rw [List.sum_cons]
    omega
theorem red_nn {p : List Int} (h : Pat p) : 0 ≤ red p := by
  have := pat_sum h.two
  unfold red
  omega
theorem rp_nn {ps : List (List Int)} (h : ∀ p ∈ ps, Pat p) : 0 ≤ rp ps := by
  refine sum_nn fun x hx => ?_
  obtain ⟨p, hp, e⟩ := List.mem_map.mp hx
  rw [← e]
  exact red_nn (h p hp)
theorem rp_snoc (ps : List (List Int)) (p : List Int) : rp (ps ++ [p]) = rp ps + red p := by
  unfold rp
  rw [List.map_append, List.sum_append]
  simp
structure Drw (n : Int) (M : List Int) (ps : List (List Int)) (alive left : Int) : Prop where
  ml : M.length = ps.length + 1
  m0 : ∀ x ∈ M, 0 ≤ x
  lf : left = n - M.sum
  l0 : 0 ≤ left
  al : alive = M.sum - rp ps
  a1 : 1 ≤ alive
  pt : ∀ p ∈ ps, Pat p ∧ p ≠ []
  en : ∀ (i : Nat) (p : List Int), ps[i]? = some p → p.sum ≤ (M.take (i + 1)).sum - rp (ps.take i)
theorem Drw.start {n m : Int} (h1 : 1 ≤ m) (h2 : m ≤ n) : Drw n [m] [] m (n - m) :=
  ⟨rfl, fun x hx => by rw [List.mem_singleton.mp hx]; omega, by simp, by omega, by simp [rp], h1, (fun _ h => by cases h), (fun i p h => by simp at h)⟩
theorem Drw.an {n : Int} {M : List Int} {ps : List (List Int)} {a l : Int} (D : Drw n M ps a l) : a ≤ n := by
  have := rp_nn fun p hp => (D.pt p hp).1
  have h1 := D.al
  have h2 := D.lf
  have h3 := D.l0
  omega
theorem Drw.step {n : Int} {M : List Int} {ps : List (List Int)} {a l s : Int} {p : List Int} (D : Drw n M ps a l) (hp : Pat p) (hn : p ≠ []) (hs : p.sum ≤ a) (s0 : 0 ≤ s) (s1 : s ≤ l) :
    Drw n (M ++ [s]) (ps ++ [p]) (a - p.sum + (p.length : Nat) + s) (l - s) := by
  have pl : 0 < p.length := List.length_pos_iff.mpr hn
  refine ⟨by rw [List.length_append, List.length_append, D.ml]; rfl, fun x hx => ?_, ?_, by omega, ?_, by omega, fun q hq => ?_, fun i q hq => ?_⟩
  · rcases List.mem_append.mp hx with h | h
    · exact D.m0 x h
    · rw [List.mem_singleton.mp h]; exact s0
  · rw [List.sum_append, D.lf]
    simp only [List.sum_cons, List.sum_nil]
    omega
  · rw [List.sum_append, rp_snoc, D.al]
    simp only [List.sum_cons, List.sum_nil, red]
    omega
  · rcases List.mem_append.mp hq with h | h
    · exact D.pt q h
    · rw [List.mem_singleton.mp h]; exact ⟨hp, hn⟩
  · by_cases hi : i < ps.length
    · rw [List.getElem?_append_left hi] at hq
      rw [List.take_append_of_le_length (by rw [D.ml]; omega), List.take_append_of_le_length (by omega)]
      exact D.en i q hq
    · have hi2 : i = ps.length := by
        have := (List.getElem?_eq_some_iff.mp hq).1
        rw [List.length_append] at this
        have : i < ps.length + 1 := this
        omega
      subst hi2
      rw [List.getElem?_append_right (Nat.le_refl _), Nat.sub_self] at hq
      have e : p = q := Option.some.inj hq
      subst e
      rw [List.take_append_of_le_length (by rw [D.ml]; omega), List.take_append_of_le_length (Nat.le_refl _), List.take_of_length_le (by rw [D.ml]; omega), List.take_length, ← D.al]
      exact hs
theorem Drw.cal {n : Int} {M : List Int} {ps : List (List Int)} {a l : Int} {born : List Int} (D : Drw n M ps a l) (h12 : n ≤ 12) (hd : ps.length ≤ 11)
    (pm : born.Perm (ordr M ps.length ++ List.replicate (n - (ordr M ps.length).length).toNat ((ps.length : Nat) : Int))) : CalOk born ps ∧ (born.length : Int) = n := by
  have ol := ordr_len D.m0 ps.length (by rw [D.ml]; omega)
  have ms : (M.take ps.length).sum ≤ M.sum := by
    have e : M.sum = (M.take ps.length).sum + M.getD ps.length 0 := by
      rw [← take_sum (by rw [D.ml]; omega), List.take_of_length_le (by rw [D.ml]; omega)]
    have : 0 ≤ M.getD ps.length 0 := by
      rw [List.getD_eq_getElem?_getD, List.getElem?_eq_getElem (by rw [D.ml]; omega)]
      exact D.m0 _ (List.getElem_mem _)
    omega
  have h1 := D.lf
  have h2 := D.l0
  have an := D.an
  have a1 := D.a1
  have bl : (born.length : Int) = n := by
    rw [pm.length_eq, List.length_append, List.length_replicate]
    omega
  have cnt : ∀ i : Nat, i < ps.length → ((born.count (i : Int) : Nat) : Int) = M.getD i 0 := fun i hi => by
    rw [pm.count_eq, List.count_append, ordr_count M _ i hi, List.count_replicate, if_neg (by simp; omega)]
    have : 0 ≤ M.getD i 0 := by
      rw [List.getD_eq_getElem?_getD, List.getElem?_eq_getElem (by rw [D.ml]; omega)]
      exact D.m0 _ (List.getElem_mem _)
    omega
  have now : ∀ i : Nat, i ≤ ps.length → nowA born ps i = (M.take i).sum - rp (ps.take i) := fun i => by
    induction i with
    | zero => intro _; simp [nowA, rp]
    | succ i ih =>
      intro hi
      have g : ps[i]? = some ps[i] := List.getElem?_eq_getElem (by omega)
      have e1 : ps.getD i [] = ps[i] := by rw [List.getD_eq_getElem?_getD, g]; rfl
      have e2 : ps.take (i + 1) = ps.take i ++ [ps[i]] := by rw [List.take_succ, g]; rfl
      rw [nowA, ih (by omega), cnt i (by omega), take_sum (by rw [D.ml]; omega), e1, e2, rp_snoc]
      unfold red
      omega
  refine ⟨⟨by omega, by omega, hd, D.pt, fun b hb => ?_, fun i p hp => ?_⟩, bl⟩
  · rcases List.mem_append.mp (pm.mem_iff.mp hb) with h | h
    · have := ordr_mem h
      omega
    · have := (List.mem_replicate.mp h).2
      omega
  · have hi := (List.getElem?_eq_some_iff.mp hp).1
    have := D.en i p hp
    unfold alv
    rw [now i (by omega), cnt i hi]
    rw [take_sum (by rw [D.ml]; omega)] at this
    omega
theorem great_cal {f m : Nat} {xs born : List Int} (hf : 4 ≤ f) (hf2 : f + xs.length = 12) (hm : 1 ≤ m) (hm2 : m < f) (hx : ∀ x ∈ xs, 0 ≤ x ∧ x ≤ (m : Nat)) (pm : born.Perm (List.replicate f (0 : Int) ++ xs)) :
    CalOk born (List.replicate m [2]) ∧ born.length = 12 := by
  have bl : born.length = 12 := by
    rw [pm.length_eq, List.length_append, List.length_replicate]
    omega
  have c0 : f ≤ born.count (0 : Int) := by
    rw [pm.count_eq, List.count_append, List.count_replicate, if_pos (by simp)]
    omega
  have g2 : ∀ i : Nat, i < m → (List.replicate m [(2 : Int)]).getD i [] = [2] := fun i hi => by
    rw [List.getD_eq_getElem?_getD, List.getElem?_replicate, if_pos hi]; rfl
  have now : ∀ i : Nat, i < m → (f : Int) - (i + 1 : Nat) ≤ nowA born (List.replicate m [2]) (i + 1) := fun i => by
    induction i with
    | zero =>
      intro hi
      rw [nowA, g2 0 hi]
      have c0' : (f : Int) ≤ ((born.count ((0 : Nat) : Int) : Nat) : Int) := by exact_mod_cast c0
      simp only [nowA, List.sum_cons, List.sum_nil, List.length_cons, List.length_nil]
      omega
    | succ i ih =>
      intro hi
      have := ih (by omega)
      rw [nowA, g2 (i + 1) hi]
      simp only [List.sum_cons, List.sum_nil, List.length_cons, List.length_nil]
      omega
  refine ⟨⟨by omega, by omega, by rw [List.length_replicate]; omega, fun p hp => ?_, fun b hb => ?_, fun i p hp => ?_⟩, bl⟩
  · rw [(List.mem_replicate.mp hp).2]
    exact ⟨⟨by decide, by decide, by decide, by decide⟩, by decide⟩
  · rw [List.length_replicate]
    rcases List.mem_append.mp (pm.mem_iff.mp hb) with h | h
    · have := (List.mem_replicate.mp h).2
      omega
    · exact hx b h
  · have hi := (List.getElem?_eq_some_iff.mp hp).1
    rw [List.length_replicate] at hi
    rw [List.getElem?_replicate, if_pos hi] at hp
    have e := Option.some.inj hp
    subst e
    show (2 : Int) ≤ _
    unfold alv
    cases i with
    | zero =>
      have c0' : (f : Int) ≤ ((born.count ((0 : Nat) : Int) : Nat) : Int) := by exact_mod_cast c0
      simp only [nowA]
      omega
    | succ i =>
      have := now i (by omega)
      omega
end Dl

namespace Dr
open PySem PySem.Spec PyProof.Rows L2
theorem intsAre_of : ∀ {its : List Value} {ns : List Int}, Vals (ns.map V.int) its → IntsAre its ns := fun r => ints_of_vals r
section
variable {X : Cx}
/-- sum of a tuple of ints -/
def rSumT (K : PySem.W.Frag) : List V → Hp → VK → Prop := fun vs H Q => ∃ (a : Addr) (ns : List Int), vs = [V.ref a] ∧ SqT K H a (ns.map V.int) ∧ Q (.int ns.sum) H
theorem cr_sumT (hc : X.calm = true) : CallR X (.builtin "sum") (rSumT X.K) := by
  intro pins s σ H vs us Q I r h
  obtain ⟨a, ns, rfl, hs, q⟩ := h
  obtain ⟨its, rv, hl, _⟩ := I.tuple hs
  rw [Vals.ref1 r]
  have hi : IntsAre its ns := ints_of_vals rv
  obtain ⟨xs, e⟩ := hi.allInts.items
  have hn : numsOf (intItems xs).toList = ns := by rw [← e]; exact hi.numsOf
  rw [nums_intItems] at hn
  have hl' : s.heap.IsTuple a its.toArray := hl
  rw [e] at hl'
  refine PySem.W.ktm_sumG (I.ok.hd hc) hl' fun h' tk t' hk => ?_
  refine ⟨.int ns.sum, H, I.kept hk, ⟨t', ?_⟩, q⟩
  rw [preSum_eq, List.take_of_length_le (by simp), hn]
/-- t.count(k) of ints -/
def rCntT (K : PySem.W.Frag) : V → List V → Hp → VK → Prop := fun x xs H Q => ∃ (p : Addr) (ns : List Int) (k : Int), x = .ref p ∧ xs = [.int k] ∧ SqT K H p (ns.map V.int) ∧ Q (.int (ns.count k : Nat)) H
theorem mt_tcount : MtR X "tuple.count" (rCntT X.K) := by
  intro pins s σ H x xs v us Q I rx rxs h
  obtain ⟨p, ns, k, rfl, rfl, hs, q⟩ := h
  cases rx
  obtain ⟨u, rfl, ru⟩ := rxs.one
  obtain ⟨t, rfl⟩ := ru
  obtain ⟨its, rv, ⟨⟨cls, dd, data, sl⟩, ho, hc, n, hd⟩, hlen⟩ := I.tuple hs
  simp only at hc hd
  subst hc hd
  have hi := ints_of_vals rv
  refine call_meets PySem.F.slot_tuple_count ⟨_, ho, rfl⟩ PySem.F.entry_tuple_count (PySem.F.args_tuple_count_2 _ _)
    (SeqAt.tuple_countAt p its.toArray n dd sl (.int k t) (eqk k)) ⟨ho, fun y hy => (eqk_gives hi y (by simpa using hy)).at _ _, ?_⟩
  have ec : its.toArray.toList.countP (eqk k) = ns.count k := eqk_count hi
  refine ⟨.int (ns.count k : Nat), H, I.tok _, ⟨s.toks, ?_⟩, q⟩
  show Value.int ((its.toArray.toList.countP (eqk k) : Nat) : Int) s.toks = Value.int ((ns.count k : Nat) : Int) s.toks
  rw [ec]
theorem flat_ints (ys : List Int) : (ys.map V.int).all flatV = true := by
  rw [List.all_map]
  exact List.all_eq_true.mpr fun _ _ => rfl
/-- t.index(k) of ints -/
def rIdxT (K : PySem.W.Frag) : V → List V → Hp → VK → Prop := fun x xs H Q => ∃ (p : Addr) (ns : List Int) (k : Int), x = .ref p ∧ xs = [.int k] ∧ SqT K H p (ns.map V.int) ∧ k ∈ ns ∧ Q (.int (ns.idxOf k : Nat)) H
theorem mt_tindex : MtR X "tuple.index" (rIdxT X.K) := by
  intro pins s σ H x xs v us Q I rx rs h
  obtain ⟨p, ys, z, rfl, rfl, hq, hm, q⟩ := h
  cases rx
  obtain ⟨u, rfl, t, rfl⟩ := rs.one
  obtain ⟨its, r, pl, hz⟩ := I.tuple hq
  obtain ⟨⟨cls, dd, dt, sl⟩, ho, hc, n, hd⟩ := pl
  simp only at hc hd
  subst hc
  subst hd
  have hl : its.toArray.size = ys.length := by rw [List.size_toArray, ← r.length, List.length_map]
  have hjl : ys.idxOf z < ys.length := List.idxOf_lt_length_of_mem hm
  have hj : ys.idxOf z < its.toArray.size := by rw [hl]; exact hjl
  have at' : ∀ (m : Nat) (hm : m < its.toArray.size), ∃ y t', ys[m]? = some y ∧ its.toArray[m] = Value.int y t' := fun m hm => by
    have hm' : m < ys.length := by rw [← hl]; exact hm
    obtain ⟨w, hw, t', hw'⟩ := r.get (i := m) (x := .int ys[m]) (by simp [hm'])
    refine ⟨ys[m], t', List.getElem?_eq_getElem hm', ?_⟩
    have e := (List.getElem?_eq_some_iff.mp hw).2
    rw [← hw', ← e]
    simp
  refine call_meets PySem.F.slot_tuple_index ⟨_, ho, rfl⟩ PySem.F.entry_tuple_index (PySem.F.args_tuple_index_2 _ _) (TI.tuple_indexAt p its.toArray n dd sl (.int z t) (eqU (.int z)) (ys.idxOf z) hj ?_ ?_)
    ⟨ho, fun w hw => mem_eqAt (x := .int z) ⟨t, rfl⟩ rfl r (flat_ints ys) w (by simpa using hw), ⟨.int (ys.idxOf z : Nat), H, I.tok _, ⟨_, rfl⟩, q⟩⟩
  · obtain ⟨y, t', h1, h2⟩ := at' _ hj
    rw [h2]
    have e := List.getElem?_eq_getElem hjl
    rw [h1] at e
    have e2 : y = z := by
      have := Option.some.inj e
      rw [this]
      exact List.getElem_idxOf hjl
    subst e2
    show (y == y) = true
    exact beq_self_eq_true y
  · intro m hms hmj
    have hm' : m < ys.length := by rw [← hl]; exact hms
    obtain ⟨y, t', h1, h2⟩ := at' m hms
    rw [h2]
    show (y == z) = false
    refine beq_eq_false_iff_ne.mpr fun e => ?_
    subst e
    have := List.not_of_lt_findIdx (p := (· == y)) (xs := ys) hmj
    rw [List.getElem?_eq_getElem hm'] at h1
    rw [Option.some.inj h1] at this
    simp at this
/-- xs.extend(t), t a tuple -/
theorem list_extend_tup (l : Addr) (items : Array Value) (n : Nat) (b : Addr) (items2 : Array Value) (n2 : Nat) (dd : Option Addr) (sl : Array (Option Value)) (hs0 : ¬(!items.isEmpty && Builtin.List.listTooLong (items.size + items2.size)) = true) (hs1 : items.size ≤ sizeLine) (hs2 : items.size + items2.size ≤ sizeLine + 1) :
    Meets (Builtin.«list.extend» ⟨[.ref l, .ref b], []⟩) (fun _ R s => s.heap.get? l = some { cls := .type "list", dict := none, data := .seq items n, slots := #[] } ∧ s.heap.get? b = some { cls := .type "tuple", dict := dd, data := .seq items2 n2, slots := sl } ∧ R (.ok (.ret Value.none)) { s with heap := s.heap.update l (Obj.mapSeq fun x => x ++ items2), toks := s.toks }) :=
  .of_wp fun prog w A R s h => by
    obtain ⟨hp, g, d, tk, os⟩ := s; obtain ⟨hl, hb, h⟩ := h; have f1 := AutoSeq1.idx_int; have f2 := AutoSeq1.sub_tuple_tuple; have f3 := AutoSeq1.sub_list_list; have f4 := AutoSeq1.sub_tuple_list; have f5 := AutoSeq1.sub_list_tuple;
    have hz' : (items ++ items2).size ≤ sizeLine + 1 := by rw [Array.size_append]; exact hs2
    wp_walk using (wpAny_updateSeq hl rfl (hz := hs1) (_hz' := hz')), AutoSeq1.wpAny_loadPart' hl, AutoSeq1.wpAny_loadPart' hb; exact ⟨_, rfl, h⟩
def rExtT (K : PySem.W.Frag) : V → List V → Hp → VK → Prop := fun x vs H Q => ∃ l b xs zs, x = .ref l ∧ vs = [.ref b] ∧ H l = some (.lst xs) ∧ SqT K H b zs ∧ xs.length + zs.length ≤ sizeLine ∧ Q .non (upd H l (.lst (xs ++ zs)))
theorem mt_extendT : MtM X "list.extend" (rExtT X.K) := by
  intro pins s σ H x vs v us Q I rx rv h
  obtain ⟨l, b, xs, zs, rfl, rfl, hH, hB, hz, q⟩ := h
  cases rx
  obtain ⟨u, rfl, ru⟩ := rv.one
  cases ru
  obtain ⟨z, its, n, r, hl, e⟩ := I.lstM hH
  obtain ⟨its2, r2, ⟨⟨cls, dd, data, sl⟩, ho, hc, n2, hd⟩, hl2⟩ := I.tuple hB
  simp only at hc hd
  subst hc hd
  have q1 := r.length
  have q2 := r2.length
  have hsz : its.toArray.size + its2.toArray.size ≤ sizeLine := by rw [List.size_toArray, List.size_toArray]; omega
  have hlong : ¬ (!its.toArray.isEmpty && Builtin.List.listTooLong (its.toArray.size + its2.toArray.size)) = true := by
    rw [notLongL hsz, Bool.and_false]
    exact Bool.false_ne_true
  refine call_meets F.slot_list_extend ⟨_, e, rfl⟩ F.entry_list_extend (F.args_list_extend_2 _ _)
    (list_extend_tup l its.toArray n b its2.toArray n2 dd sl hlong (by rw [List.size_toArray]; omega) (by omega)) ⟨e, ho, ?_⟩
  refine ⟨.non, _, I.lset (its' := its ++ its2) hH e (by simp) (r.append r2) ?_, rfl, q⟩
  rw [List.length_append]
  omega
/-- set(t), t a tuple of ints -/
def rSetT (K : PySem.W.Frag) (w : World) : List V → Hp → VK → Prop := fun xs H Q => ∃ (a : Addr) (ns : List Int), xs = [.ref a] ∧ SqT K H a (ns.map V.int) ∧ ns.length ≤ 1000 ∧
  ∀ p c, H p = none → c ≤ ns.length → Q (.ref p) (upd H p (SetO w p (fun j => decide (j ∈ ns)) c))
theorem cr_setT (hc : X.calm = true) : CallR X (.type "set") (rSetT X.K X.w) := by
  intro pins s σ H vs us Q I r h
  obtain ⟨a, ns, rfl, hs, hl, q⟩ := h
  obtain ⟨its, rv, pt, hz⟩ := I.tuple hs
  rw [Vals.ref1 r]
  have hi : IntsAre its.toArray.toList ns := ints_of_vals rv
  refine call_set_tupI ns (I.ok.hd hc) (show s.heap.IsTuple a its.toArray from pt) hi (by unfold scanBound; omega) fun h' tk c R1 hcn k => ?_
  exact ⟨.ref _, upd H s.heap.objs.size (SetO X.w s.heap.objs.size (fun j => decide (j ∈ ns)) c), I.laid (t' := tk) k (Nat.le_refl _) (setO_new R1), rfl, q _ c (I.hok.fresh (Nat.le_refl _)) hcn⟩
/-- math.comb, math.factorial of small numbers -/
def rComb : List V → Hp → VK → Prop := fun vs H Q => ∃ a b : Int, vs = [.int a, .int b] ∧ 0 ≤ a ∧ a ≤ 100 ∧ 0 ≤ b ∧ b ≤ 100 ∧ Q (.int (PySem.W.mcComb a b)) H
theorem cr_comb : CallR X (.builtin "math.comb") rComb := by
  intro pins s σ H vs us Q I r h
  obtain ⟨a, b, rfl, h0, h1, h2, h3, q⟩ := h
  obtain ⟨t, u, rfl⟩ := Vals.int2 r
  exact PySem.W.mc_comb h0 h2 (by omega) (by omega) fun _ => ⟨.int _, H, I.tok _, ⟨_, rfl⟩, q⟩
def rFac : List V → Hp → VK → Prop := fun vs H Q => ∃ a : Int, vs = [.int a] ∧ 0 ≤ a ∧ a ≤ 100 ∧ Q (.int ((Builtin.Math.factorialNat a.toNat : Nat) : Int)) H
theorem cr_fac : CallR X (.builtin "math.factorial") rFac := by
  intro pins s σ H vs us Q I r h
  obtain ⟨a, rfl, h0, h1, q⟩ := h
  obtain ⟨u, rfl, t, rfl⟩ := r.one
  exact PySem.W.mc_factorial h0 (by omega) fun _ => ⟨.int _, H, I.tok _, ⟨_, rfl⟩, q⟩
end
end Dr

namespace Dr
open PySem PySem.Spec PyProof.Rows L2 HT
section
variable {prog : Program} {w : World} {A : Around} {E : Value → Shared → Prop} {s : Shared}
theorem slice_rev_applied {sl : Addr} {vl vu vs : Value} {n : Nat} {Q : Int × Int × Nat → Shared → Prop} (hs : s.heap.IsSliceOf sl vl vu vs) (pl : IsPart vl none) (pu : IsPart vu none) (ps : IsPart vs (some (-1)))
    (h : Q ((n : Int) - 1, -1, n) s) : wpAny (model prog w) A (Builtin.Slice.sliceApplied (.ref sl) (pure (n : Int))) Q E s := by
  obtain ⟨os, hos, hcs, hds⟩ := id hs
  unfold Builtin.Slice.sliceApplied Builtin.Slice.sliceFields
  refine wpAny_bind (wpAny_bind (wpAny_field hos hds (x := vl) rfl (wpAny_bind (wpAny_field hos hds (x := vu) rfl (wpAny_bind (wpAny_field hos hds (x := vs) rfl (wpAny_pure ?_)))))))
  refine wpAny_bind (slicePart_ ps ?_)
  show wpAny _ _ (if ((-1 : Int) == 0) = true then _ else _) _ _ s
  rw [if_neg (by decide)]
  refine wpAny_bind (slicePart_ pl (wpAny_bind (slicePart_ pu (wpAny_bind (wpAny_pure ?_)))))
  show wpAny _ _ (match Builtin.Slice.sliceAdjust none none (-1) (n : Int) with | (lo, hi) => pure (lo, (-1 : Int), Builtin.Slice.slicePlaces lo hi (-1))) _ _ s
  have e : Builtin.Slice.sliceAdjust none none (-1) (n : Int) = ((n : Int) - 1, -1) := by
    unfold Builtin.Slice.sliceAdjust
    simp
  rw [e]
  show wpAny _ _ (pure ((n : Int) - 1, (-1 : Int), Builtin.Slice.slicePlaces ((n : Int) - 1) (-1) (-1))) _ _ s
  have e2 : Builtin.Slice.slicePlaces ((n : Int) - 1) (-1) (-1) = n := by
    unfold Builtin.Slice.slicePlaces
    rw [if_neg (by decide)]
    by_cases hn : (n : Int) - 1 > -1
    · rw [if_pos hn]
      have : -(-1 : Int) = 1 := by decide
      rw [this, Int.ediv_one]
      omega
    · rw [if_neg hn]
      omega
  rw [e2]
  exact wpAny_pure h
theorem pick_rev (xs : Array Value) : ((List.range xs.size).filterMap fun (m : Nat) => xs[(((xs.size : Nat) : Int) - 1 + (m : Int) * (-1)).toNat]?).toArray = xs.toList.reverse.toArray := by
  have : ((List.range xs.size).filterMap fun (m : Nat) => xs[(((xs.size : Nat) : Int) - 1 + (m : Int) * (-1)).toNat]?) = xs.toList.reverse := by
    have e1 : ((List.range xs.size).filterMap fun (m : Nat) => xs[(((xs.size : Nat) : Int) - 1 + (m : Int) * (-1)).toNat]?) = (List.range xs.size).map fun m => xs.toList.reverse.getD m Value.none := by
      rw [← List.filterMap_eq_map]
      have fc : ∀ {f g : Nat → Option Value} (l : List Nat), (∀ m ∈ l, f m = g m) → l.filterMap f = l.filterMap g := fun {f g} l => by
        induction l with
        | nil => intro _; rfl
        | cons a l ih =>
          intro h
          rw [List.filterMap_cons, List.filterMap_cons, h a List.mem_cons_self, ih fun m hm => h m (List.mem_cons_of_mem _ hm)]
      refine fc _ fun m hm => ?_
      have hm' := List.mem_range.mp hm
      have e : (((xs.size : Nat) : Int) - 1 + (m : Int) * (-1)).toNat = xs.size - 1 - m := by omega
      rw [e]
      have h2 : m < xs.toList.reverse.length := by simpa using hm'
      simp only [Function.comp, List.getD_eq_getElem?_getD, List.getElem?_eq_getElem h2, Option.getD_some]
      rw [List.getElem_reverse]
      have h3 : xs.size - 1 - m < xs.size := by omega
      rw [Array.getElem?_eq_getElem h3]
      simp
    rw [e1]
    refine List.ext_getElem? fun i => ?_
    rw [List.getElem?_map]
    by_cases hi : i < xs.size
    · have h2 : i < xs.toList.reverse.length := by simpa using hi
      rw [List.getElem?_range hi, List.getElem?_eq_getElem h2]
      simp only [Option.map_some, List.getD_eq_getElem?_getD, List.getElem?_eq_getElem h2, Option.getD_some]
    · rw [List.getElem?_eq_none (by simpa using hi), List.getElem?_eq_none (by simpa using hi)]
      rfl
  rw [this]
theorem getItem_tuple_rev {t sl : Addr} {items : Array Value} {vl vu vs : Value} {Q : Value → Shared → Prop} (ht : IsTup s.heap t items) (hs : s.heap.IsSliceOf sl vl vu vs) (pl : IsPart vl none) (pu : IsPart vu none) (ps : IsPart vs (some (-1)))
    (h : Q (.ref s.heap.objs.size) { s with heap := s.heap.push { cls := .type "tuple", data := .seq items.toList.reverse.toArray } })
    (hsz : items.size ≤ sizeLine) : wpAny (model prog w) A (getItem (.ref t) (.ref sl)) Q E s := by
  have htake : sizeOk (.seq items.toList.reverse.toArray) := by
    show items.toList.reverse.toArray.size ≤ sizeLine
    simpa using hsz
  obtain ⟨os, hos, hcs, hds⟩ := id hs
  have hTs : s.TypeIs (.ref sl) "slice" := ⟨os, hos, hcs⟩
  unfold getItem
  try with_reducible refine wpAny_holding ?_
  first | refine wpAny_bind (wpAny_pure ?_) | skip
  refine wpAny_bind (wpAny_sequenceKey ht.typeIs (by decide) ?_)
  refine wpAny_bind (wpAny_callSpecial?_slot (name := Str.ofString "__getitem__") ht.typeIs PyProof.Rows.slot_tuple_getitem
    (wpAny_call_entry PyProof.Rows.slot_tuple_getitem ht.typeIs entry_tuple_getitem ?_ (args_tuple_getitem _ _)))
  show wpAny _ _ (Builtin.Tuple.tupleItemsOf (.ref t) >>= _) _ _ s
  refine wpAny_bind (tupleItemsOf_ ht ?_)
  refine wpAny_bind (wpAny_typeOf hTs ?_)
  rw [if_pos (by decide)]
  refine wpAny_bind (slice_rev_applied hs pl pu ps ?_)
  have hno : ¬ (((((items.size : Nat) : Int) - 1 == 0) && ((-1 : Int) == 1) && (items.size == items.size)) = true) := by
    intro q
    rw [Bool.and_eq_true, Bool.and_eq_true] at q
    exact absurd q.1.2 (by decide)
  show wpAny _ _ (if ((((items.size : Nat) : Int) - 1 == 0) && ((-1 : Int) == 1) && (items.size == items.size)) = true then _ else _) _ _ s
  rw [if_neg hno, pick_rev]
  first
    | exact wpAny_bind (m := Builtin.Tuple.tupleExact _) (wpAny_newObj_type (wpAny_pure ⟨_, rfl, wpAny_pure h⟩) htake)
    | exact wpAny_bind (m := Builtin.Tuple.tupleExact _) (wpAny_newObj_type (wpAny_bind (wpAny_pure (wpAny_pure ⟨_, rfl, wpAny_pure h⟩))) htake)
    | exact wpAny_bind (wpAny_bind (m := Builtin.Tuple.tupleExact _) (wpAny_newObj_type (wpAny_pure (wpAny_pure ⟨_, rfl, wpAny_pure h⟩)) htake))
    | exact wpAny_bind (wpAny_bind (m := Builtin.Tuple.tupleExact _) (wpAny_newObj_type (wpAny_pure ⟨_, rfl, wpAny_pure h⟩) htake))
end
section
variable {X : Cx}
/-- t[::-1] -/
def tRevT (K : PySem.W.Frag) (te : TE) : TE := fun σ H Q => te σ H fun x H1 => ∃ a xs, x = .ref a ∧ SqT K H1 a xs ∧ ∀ p, H1 p = none → Q (.ref p) (upd H1 p (.tup xs.reverse))
theorem pe_revT {e : Expr} {te : TE} {k : Nat} {p1 p2 p3 pos : Pos} (he : PE X e te) : PE X (.Subscript e (.Slice none none (some (.UnaryOp .USub (.Constant (.int 1) k p1) p2)) p3) pos) (tRevT X.K te) := by
  refine ⟨fun pins s σ H Q I h => ?_⟩
  refine Subscript_ (thn (he.run pins s σ H _ I h) fun v s1 ⟨x, H1, I1, r1, q1⟩ => ?_)
  obtain ⟨a, xs, ex, hx, q⟩ := q1
  subst ex
  cases r1
  have hst : PO X (some (.UnaryOp .USub (.Constant (.int 1) k p1) p2)) (tPart (tUn (rU fun i => .int (-i)) (tC (.int 1)))) := po_some (pe_un un_neg pe_int)
  refine wpAny_Slice (thn (po_none.run pins s1 σ H1 (fun o H2 => o = none ∧ H2 = H1) I1 ⟨rfl, rfl⟩) fun vl s2 ⟨l, H2, I2, pl, el, e2⟩ => ?_)
  subst el e2
  refine thn (po_none.run pins s2 σ H2 (fun o H3 => o = none ∧ H3 = H2) I2 ⟨rfl, rfl⟩) fun vu s3 ⟨u, H3, I3, pu, eu, e3⟩ => ?_
  subst eu e3
  refine thn (hst.run pins s3 σ H3 (fun o H4 => o = some (-1) ∧ H4 = H3) I3 ⟨1, rfl, -1, rfl, rfl, rfl⟩) fun vs s4 ⟨o, H4, I4, ps, eo, e4⟩ => ?_
  subst eo e4
  have I5 : Inv X pins σ H4 { s4 with heap := s4.heap.push { cls := .type "slice", data := .fields #[vl, vu, vs] } } := I4.kept (t' := s4.toks) fun b ob q => Heap.get?_push_of_some _ q
  obtain ⟨its, r, ht, hz⟩ := I5.tuple hx
  have hlen := r.length
  show wpAny (model X.prog X.w) X.A (subscriptTail e (.Slice none none (some (.UnaryOp .USub (.Constant (.int 1) k p1) p2)) p3) (.ref a) (.ref s4.heap.objs.size)) (EP X pins σ Q) X.xe { s4 with heap := s4.heap.push { cls := .type "slice", data := .fields #[vl, vu, vs] } }
  refine tail_any (ops := [.ref a, .ref s4.heap.objs.size]) ht.typeIs (PyProof.Rows.slot_tuple_getitem.lookup) ?_ (by with_unfolding_all rfl)
  refine getItem_tuple_rev ht (Heap.IsSliceOf.new _ vl vu vs) pl pu ps ?_ (by rw [List.size_toArray]; omega)
  refine ⟨.ref _, _, I5.laid (t' := s4.toks) (o := .tup xs.reverse) (fun b ob q => Heap.get?_push_of_some _ q) (Nat.le_refl _) ?_, rfl, q _ (I5.hok.fresh (Nat.le_refl _))⟩
  exact ⟨by rw [List.length_reverse]; exact hz, _, r.reverse, IsTup.new _ _⟩
end
/-! ### sorted of a tuple -/
section
variable {prog : Program} {w : World} {A : Around} {E : Value → Shared → Prop} {s : Shared}
theorem collect_tup {l : Addr} {vs : List Value} {Q : List Value → Shared → Prop} (hl : IsTup s.heap l vs.toArray)
    (h : Q vs { s with heap := (s.heap.push (seqObj "list" #[] 0)).update s.heap.objs.size (Obj.mapSeq (· ++ vs.toArray)) }) (hsz : vs.length ≤ sizeLine) :
    wpAny (model prog w) A (collect (.ref l)) Q E s := by
  obtain ⟨o, ho, hc, n, hd⟩ := id hl
  unfold collect
  refine wpAny_bind (wpAny_runValue (codeAny_builtin entry_proto_collect' ?_))
  show wpAny _ _ (do again (.builtin "list.__iadd__" ⟨[← newList [], .ref l], []⟩)) _ _ s
  refine wpAny_bind (wpAny_newList (wpAny_pure ⟨Code.quiet_builtin _ (by decide +kernel), codeAny_builtin entry_list_iadd' ?_⟩))
  show wpAny _ _ (Builtin.List.listExtendWith (.ref s.heap.objs.size) (.ref l) (.ref s.heap.objs.size)) _ _ { s with heap := s.heap.push (seqObj "list" #[] 0) }
  unfold Builtin.List.listExtendWith
  have ho' : (s.heap.push (seqObj "list" #[] 0)).get? l = some o := Heap.get?_push_of_some _ ho
  refine wpAny_bind (wpAny_typeOf (T := "tuple") ⟨o, ho', hc⟩ ?_)
  have ht : (Value.type "tuple" == Value.type "tuple") = true := by rfl
  rw [if_pos (by rw [ht]; simp)]
  refine wpAny_bind (listItems_at ho' hd ?_)
  refine wpAny_bind (listItems_at (xs := #[]) (n := 0) (Heap.get?_push_size _ rfl) rfl ?_)
  rw [if_neg (by simp)]
  refine wpAny_bind (listUpdate_at (xs := #[]) (n := 0) (Heap.get?_push_size _ rfl) rfl ?_ (Nat.zero_le _) (by show (#[] ++ vs.toArray).size ≤ sizeLine + 1; simp only [Array.size_append, List.size_toArray, List.length_nil]; omega))
  refine wpAny_pure ?_
  show wpAny (model prog w) A (do
      let o ← load s.heap.objs.size
      match o.data with
      | .seq xs _ => pure xs.toList
      | _ => unsupported "internal:collect") Q E { s with heap := (s.heap.push (seqObj "list" #[] 0)).update s.heap.objs.size (Obj.mapSeq (· ++ vs.toArray)) }
  refine wpAny_bind (wpAny_load (get?_update_seq (Heap.get?_push_size _ rfl) _) ?_)
  show wpAny _ _ (pure ((#[] : Array Value) ++ vs.toArray).toList) Q E _
  rw [show ((#[] : Array Value) ++ vs.toArray).toList = vs by simp]
  exact wpAny_pure h
/-- sorted(t) by an order of its items -/
theorem sorted_ordT {l : Addr} {vs : List Value} {ltv : Value → Value → Bool} {Q : Value → Shared → Prop} (O : SrtO.Swo ltv) (hl : IsTup s.heap l vs.toArray) (hz : vs.length ≤ sizeLine)
    (hS : 2 ≤ vs.length → ∀ (h₁ : Heap) (a : Addr), h₁.get? a = some (seqObj "list" vs.toArray 0) → (∀ b o, s.heap.get? b = some o → b ≠ a ∧ h₁.get? b = some o) → SrtO.SortableO prog w A.in1.in1 { s with heap := h₁ } a vs ltv)
    (h : ∀ out : List Value, SrtO.Srtd ltv out → SrtO.Stb ltv out vs → Q (.ref (s.heap.objs.size + 1)) { s with heap := sortedAll s.heap vs out.toArray }) :
    wpAny (model prog w) A (call (.builtin "sorted") [.ref l]) Q E s := by
  refine Calls.call_function_entry kind_sorted plain_sorted entry_sorted (args_sorted1 _) ?_
  unfold Builtin.«sorted»
  refine wpAny_bind (m := checkCount "sorted" 1 1 _) (wpAny_pure ?_)
  refine wpAny_bind (collect_tup hl ?_ hz)
  refine wpAny_bind (wpAny_newList ?_ hz)
  have hsz : ((s.heap.push (seqObj "list" #[] 0)).update s.heap.objs.size (Obj.mapSeq (· ++ vs.toArray))).objs.size = s.heap.objs.size + 1 := by
    rw [Heap.size_update, size_push']
  have hoL : (((s.heap.push (seqObj "list" #[] 0)).update s.heap.objs.size (Obj.mapSeq (· ++ vs.toArray))).push (seqObj "list" vs.toArray 0)).get? (s.heap.objs.size + 1) = some (seqObj "list" vs.toArray 0) := by
    rw [← hsz]; exact Heap.get?_push_size _ rfl
  have keep : ∀ b o, s.heap.get? b = some o → b ≠ s.heap.objs.size + 1 ∧ (((s.heap.push (seqObj "list" #[] 0)).update s.heap.objs.size (Obj.mapSeq (· ++ vs.toArray))).push (seqObj "list" vs.toArray 0)).get? b = some o := fun b o q => by
    have hlt : b < s.heap.objs.size := Heap.lt_size q
    refine ⟨Nat.ne_of_lt (Nat.lt_succ_of_lt hlt), Heap.get?_push_of_some _ ?_⟩
    rw [Heap.get?_update_ne _ _ _ _ (Nat.ne_of_lt hlt)]
    exact Heap.get?_push_of_some _ q
  show wpAny _ _ _ _ _ { s with heap := ((s.heap.push (seqObj "list" #[] 0)).update s.heap.objs.size (Obj.mapSeq (· ++ vs.toArray))).push (seqObj "list" vs.toArray 0) }
  rw [hsz]
  refine wpAny_bind (wpAny_holding (wpAny_call_entry slot_list_sort ⟨_, hoL, rfl⟩ entry_list_sort (SrtO.list_sort_ord O hoL hz (fun h2 => hS h2 _ _ hoL keep) fun out hs hb => ⟨_, rfl, ?_⟩) (args_list_sort _)))
  exact wpAny_pure ⟨_, rfl, h out hs hb⟩
theorem sorted_intsT {l : Addr} {vs : List Value} {ns : List Int} {Q : Value → Shared → Prop} (hl : IsTup s.heap l vs.toArray) (hI : IntsAre vs ns) (h64 : vs.length < 64)
    (h : ∀ (out : Array Value) (ns' : List Int), IntsAre out.toList ns' → ns'.Perm ns → ns'.Pairwise (· ≤ ·) → Q (.ref (s.heap.objs.size + 1)) { s with heap := sortedAll s.heap vs out }) :
    wpAny (model prog w) A (call (.builtin "sorted") [.ref l]) Q E s := by
  have hz : vs.length ≤ sizeLine := by rw [sizeLine_eq]; omega
  refine Calls.call_function_entry kind_sorted plain_sorted entry_sorted (args_sorted1 _) ?_
  unfold Builtin.«sorted»
  refine wpAny_bind (m := checkCount "sorted" 1 1 _) (wpAny_pure ?_)
  refine wpAny_bind (collect_tup hl ?_ hz)
  refine wpAny_bind (wpAny_newList ?_ hz)
  have hsz : ((s.heap.push (seqObj "list" #[] 0)).update s.heap.objs.size (Obj.mapSeq (· ++ vs.toArray))).objs.size = s.heap.objs.size + 1 := by
    rw [Heap.size_update, size_push']
  have hoL : (((s.heap.push (seqObj "list" #[] 0)).update s.heap.objs.size (Obj.mapSeq (· ++ vs.toArray))).push (seqObj "list" vs.toArray 0)).get? (s.heap.objs.size + 1) = some (seqObj "list" vs.toArray 0) := by
    rw [← hsz]; exact Heap.get?_push_size _ rfl
  show wpAny _ _ _ _ _ { s with heap := ((s.heap.push (seqObj "list" #[] 0)).update s.heap.objs.size (Obj.mapSeq (· ++ vs.toArray))).push (seqObj "list" vs.toArray 0) }
  rw [hsz]
  refine wpAny_bind (wpAny_holding (wpAny_call_entry slot_list_sort ⟨_, hoL, rfl⟩ entry_list_sort (list_sort_tree hoL hI h64 fun out ns' a1 a2 a3 => ⟨_, rfl, ?_⟩) (args_list_sort _)))
  exact wpAny_pure ⟨_, rfl, h out ns' a1 a2 a3⟩
end
section
variable {X : Cx}
def rSortedTI (K : PySem.W.Frag) : List V → Hp → VK → Prop := fun vs H Q => ∃ (a : Addr) (ns : List Int), vs = [V.ref a] ∧ SqT K H a (ns.map V.int) ∧ ns.length < 64 ∧
  ∀ (ns' : List Int) (p : Addr), ns'.Perm ns → ns'.Pairwise (· ≤ ·) → H p = none → Q (.ref p) (upd H p (.lst (ns'.map V.int)))
theorem cr_sortedTI : CallR X (.builtin "sorted") (rSortedTI X.K) := by
  intro pins s σ H vs us Q I r h
  obtain ⟨a, ns, rfl, hs, h64, q⟩ := h
  obtain ⟨its, rv, hl, _⟩ := I.tuple hs
  rw [Vals.ref1 r]
  have hi : IntsAre its ns := ints_of_vals rv
  refine sorted_intsT hl hi (by rw [hi.length]; exact h64) fun out ns' h1 h2 h3 => ?_
  obtain ⟨ep, he'⟩ := PyProof.Rows.sortedAll_at s.heap its out
  have hlen : (ns'.map V.int).length ≤ sizeLine := by rw [List.length_map, h2.length_eq]; exact small64 h64
  exact ⟨.ref _, upd H (s.heap.objs.size + 1) (.lst (ns'.map V.int)), I.laid (t' := s.toks) (fun _ _ => PyProof.Rows.sortedAll_old) (Nat.le_succ _) ⟨hlen, out.toList, ep, vals_of_ints h1, he'⟩, rfl, q ns' _ h2 h3 (I.hok.fresh (Nat.le_succ _))⟩
end
end Dr

namespace Dr
open PySem PySem.Spec PyProof.Rows L2 HT
theorem lexLt_lx : ∀ a b : List Int, HT.lexLt a b = Dl.lx a b
  | [], [] => rfl
  | [], _ :: _ => rfl
  | _ :: _, [] => rfl
  | x :: a, y :: b => by simp only [HT.lexLt, Dl.lx, lexLt_lx a b]
/-! ### sorted of tuples of ints, by lists of their ints -/
/-- v is a tuple of the ints ns -/
def IsTI (h : Heap) (v : Value) (ns : List Int) : Prop := ∃ a its, v = .ref a ∧ IsTup h a its.toArray ∧ IntsAre its ns
theorem IsTI.keeps {h h' : Heap} {v : Value} {ns : List Int} (x : IsTI h v ns) (k : ∀ b o, h.get? b = some o → o.cls = .type "tuple" → h'.get? b = some o) : IsTI h' v ns := by
  obtain ⟨a, its, e, ⟨o, ho, hc, n, hd⟩, hi⟩ := x
  exact ⟨a, its, e, ⟨o, k a o ho hc, hc, n, hd⟩, hi⟩
section
variable {prog : Program} {w : World} {A : Around} {E : Value → Shared → Prop} {s : Shared}
theorem katlex_ints {fin : Bool} {b : Bool} {R : Bool → Shared → Prop} : ∀ {its jts : List Value} {ns ms : List Int} (i : Nat), IntsAre its ns → IntsAre jts ms → fin = decide (ns.length < ms.length) →
    R (Dl.lx ns ms) s → PySem.W.KatLex prog w A b fin R (its.zip jts) i s
  | [], _, _, ms, i, hn, hm, hf, h => by
    cases hn
    show R fin s
    rw [hf]
    cases ms with
    | nil => exact h
    | cons y ms => exact h
  | _ :: _, [], ns, _, i, hn, hm, hf, h => by
    cases hm
    show R fin s
    rw [hf]
    cases ns with
    | nil => exact h
    | cons y ns => exact h
  | p :: its, q :: jts, _, _, i, hn, hm, hf, h => by
    cases hn with
    | @cons x t _ ns hn =>
      cases hm with
      | @cons y u _ ms hm =>
        show PySem.W.KatLex prog w A b fin R ((Value.int x t, Value.int y u) :: its.zip jts) i s
        refine PySem.W.kat_cons (SeqAt.EqAt.int_int x t y u prog w _ _ ?_)
        refine PySem.W.kat_go (fun e1 => ?_) (fun e1 => ?_)
        · have ex : x = y := by simpa using e1
          subst ex
          refine PySem.W.kat_yes (katlex_ints (i + 1) hn hm ?_ ?_)
          · rw [hf, List.length_cons, List.length_cons]
            simp
          · simpa only [Dl.lx, if_true] using h
        · have ex : ¬ x = y := by simpa using e1
          refine PySem.W.kat_no ?_
          have hR : R (decide (x < y)) s := by simpa only [Dl.lx, if_neg ex] using h
          cases hb : (b && i == 0) with
          | true => exact PyProof.Rows.oneLt_int hR
          | false => exact PySem.W.kat_one _ _ (PyProof.Rows.lt_int hR)
theorem tup_cmp {vs : List Value} {k : Value → List Int} (hp : ∀ v ∈ vs, IsTI s.heap v (k v)) : SrtO.Cmp prog w A s (tuples' true) (fun p => p.1 ∈ vs) (SrtO.lt2 fun v u => Dl.lx (k v) (k u)) := by
  intro p q hm hm'
  obtain ⟨a, its, e, ⟨o, ho, hc, n, hd⟩, hi⟩ := hp _ hm
  obtain ⟨a', its', e', ⟨o', ho', hc', n', hd'⟩, hi'⟩ := hp _ hm'
  show wpAny (model prog w) A (keyLt' (tuples' true) p.1 q.1) (fun r s' => s' = s ∧ r = Dl.lx (k p.1) (k q.1)) (fun _ _ => False) s
  rw [e, e'] at *
  refine PySem.W.kat_lt ho hd ho' hd' ?_
  refine katlex_ints 0 hi hi' ?_ ⟨rfl, rfl⟩
  have l1 := hi.length
  have l2 := hi'.length
  rw [List.size_toArray, List.size_toArray, l1, l2]
theorem tup_firsts {h : Heap} {k : Value → List Int} : ∀ {vs : List Value}, (∀ v ∈ vs, IsTI h v (k v) ∧ k v ≠ []) → ∃ fs : List Value, PySem.W.KatTups h vs fs ∧ fs.length = vs.length ∧ ∀ f ∈ fs, ∃ x t, f = Value.int x t
  | [], _ => ⟨[], PySem.W.KatTups.nil, rfl, fun _ hm => by simp at hm⟩
  | v :: vs, hp => by
    obtain ⟨fs, h1, h2, h3⟩ := tup_firsts (vs := vs) fun v' hm => hp v' (List.mem_cons_of_mem _ hm)
    obtain ⟨⟨a, its, e, ⟨o, ho, hc, n, hd⟩, hi⟩, hne⟩ := hp v List.mem_cons_self
    subst e
    generalize k (.ref a) = ns at hi hne
    cases hi with
    | nil => exact absurd rfl hne
    | @cons x t its ns hi =>
      refine ⟨.int x t :: fs, PySem.W.KatTups.cons ho hc hd rfl h1, by rw [List.length_cons, List.length_cons, h2], fun f hm => ?_⟩
      rcases List.mem_cons.mp hm with rfl | hm
      · exact ⟨x, t, rfl⟩
      · exact h3 f hm
theorem tups_sortableO {a : Addr} {vs : List Value} {k : Value → List Int} (h0 : 0 < vs.length) (hp : ∀ v ∈ vs, IsTI s.heap v (k v) ∧ k v ≠ []) (ha : ∀ o, s.heap.get? a = some o → o.cls ≠ .type "tuple") : SrtO.SortableO prog w A s a vs fun v u => Dl.lx (k v) (k u) := by
  intro h' keep
  have hp' : ∀ v ∈ vs, IsTI h' v (k v) ∧ k v ≠ [] := fun v hm => ⟨(hp v hm).1.keeps fun b o e c => keep b o (fun z => by subst z; exact ha o e c) e, (hp v hm).2⟩
  obtain ⟨fs, h1, h2, h3⟩ := tup_firsts hp'
  refine ⟨tuples' true, fun Q E hq => ?_, tup_cmp fun v hm => (hp' v hm).1⟩
  refine PySem.W.kat_kind (T := .type "int") h1 (by omega) (fun f hm => ?_) (by rfl) ?_
  · obtain ⟨x, t, rfl⟩ := h3 f hm
    exact PySem.W.Looks.now
  · have e : (Value.type "int" != Value.type "tuple") = true := by first | decide +kernel | rfl | decide
    rw [e]
    exact hq
theorem swo_lx (k : Value → List Int) : SrtO.Swo fun v u => Dl.lx (k v) (k u) := by
  refine ⟨fun x y h => ?_, fun x y z h1 h2 => ?_⟩
  · cases e : Dl.lx (k y) (k x) with
    | false => rfl
    | true =>
      have h' : Dl.lx (k x) (k y) = true := h
      have := Dl.lx_tr _ _ _ h' e
      rw [Dl.lx_irr] at this
      cases this
  · exact Dl.lle_tr (a := k x) (b := k y) (c := k z) h1 h2
end
/-! ### the call, by values -/
/-- the ints of the tuple at v, as xs tells -/
def keyAt (xs : List (Addr × List Int)) (v : Value) : List Int := match v with
  | .ref a => ((xs.find? fun p => decide (p.1 = a)).map (·.2)).getD []
  | _ => []
section
variable {X : Cx} {pins : List (Addr × Obj)} {σ : L2.St} {H : Hp} {s : Shared}
theorem keyAt_mem (I : Inv X pins σ H s) : ∀ {xs : List (Addr × List Int)} {p : Addr × List Int}, (∀ p ∈ xs, SqT X.K H p.1 (p.2.map V.int)) → p ∈ xs → keyAt xs (.ref p.1) = p.2 := fun {xs p} ht hm => by
  show ((xs.find? fun q => decide (q.1 = p.1)).map (·.2)).getD [] = p.2
  cases e : xs.find? fun q => decide (q.1 = p.1) with
  | none => exact absurd (decide_eq_true rfl) (List.find?_eq_none.mp e p hm)
  | some q =>
    have h1 : q.1 = p.1 := of_decide_eq_true (List.find?_some (p := fun q : Addr × List Int => decide (q.1 = p.1)) e)
    have h2 := ht q (List.mem_of_find?_eq_some e)
    rw [h1] at h2
    have h3 := I.tuple_inj h2 (ht p hm)
    have inj : ∀ {a b : List Int}, a.map V.int = b.map V.int → a = b := fun {a b} h => by
      induction a generalizing b with
      | nil => cases b with
        | nil => rfl
        | cons y b => cases h
      | cons x a ih => cases b with
        | nil => cases h
        | cons y b =>
          injection h with h4 h5
          injection h4 with h6
          rw [h6, ih h5]
    exact inj h3
theorem isTI_of (I : Inv X pins σ H s) {a : Addr} {ns : List Int} (h : SqT X.K H a (ns.map V.int)) : IsTI s.heap (.ref a) ns := by
  obtain ⟨its, r, t, _⟩ := I.tuple h
  exact ⟨a, its, rfl, t, ints_of_vals r⟩
theorem refs_vals : ∀ {xs : List (Addr × List Int)} {its : List Value}, Vals (xs.map fun p => V.ref p.1) its → its = xs.map fun p => Value.ref p.1
  | [], _, .nil => rfl
  | p :: xs, _, .cons r t => by cases r; rw [refs_vals t]; rfl
theorem vals_refs : ∀ (xs : List (Addr × List Int)), Vals (xs.map fun p => V.ref p.1) (xs.map fun p => Value.ref p.1)
  | [] => .nil
  | p :: xs => .cons rfl (vals_refs xs)
theorem perm_lift : ∀ {out : List Value} {xs : List (Addr × List Int)}, out.Perm (xs.map fun p => Value.ref p.1) → ∃ ys : List (Addr × List Int), ys.Perm xs ∧ out = ys.map fun p => Value.ref p.1 := fun {out xs} h => by
  have key : ∀ {l m : List Value}, l.Perm m → ∀ xs : List (Addr × List Int), m = xs.map (fun p => Value.ref p.1) → ∃ ys : List (Addr × List Int), ys.Perm xs ∧ l = ys.map fun p => Value.ref p.1 := by
    intro l m h
    induction h with
    | nil =>
      intro xs e
      cases xs with
      | nil => exact ⟨[], .refl _, rfl⟩
      | cons x xs => cases e
    | cons v _ ih =>
      intro xs e
      cases xs with
      | nil => cases e
      | cons x xs =>
        injection e with e1 e2
        obtain ⟨ys, h1, h2⟩ := ih xs e2
        exact ⟨x :: ys, h1.cons x, by rw [List.map_cons, ← h2, e1]⟩
    | swap v u l =>
      intro xs e
      cases xs with
      | nil => cases e
      | cons x xs => cases xs with
        | nil => cases e
        | cons y xs =>
          injection e with e1 e2
          injection e2 with e3 e4
          exact ⟨y :: x :: xs, List.Perm.swap x y xs, by rw [List.map_cons, List.map_cons, ← e4, e1, e3]⟩
    | trans _ _ i1 i2 =>
      intro xs e
      obtain ⟨ys, h1, h2⟩ := i2 xs e
      obtain ⟨zs, h3, h4⟩ := i1 ys h2
      exact ⟨zs, h3.trans h1, h4⟩
  exact key h xs rfl
/-- sorted of a list or tuple of tuples of ints (none empty) -/
def rSortedTT (K : PySem.W.Frag) : List V → Hp → VK → Prop := fun vs H Q => ∃ (a : Addr) (xs : List (Addr × List Int)), vs = [V.ref a] ∧ (SqL K H a (xs.map fun p => V.ref p.1) ∨ SqT K H a (xs.map fun p => V.ref p.1)) ∧
  (∀ p ∈ xs, SqT K H p.1 (p.2.map V.int) ∧ p.2 ≠ []) ∧ ∀ (ys : List (Addr × List Int)) (p : Addr), ys.Perm xs → (ys.map (·.2)).Pairwise Dl.lle → H p = none → Q (.ref p) (upd H p (.lst (ys.map fun p => V.ref p.1)))
theorem cr_sortedTT : CallR X (.builtin "sorted") (rSortedTT X.K) := by
  intro pins s σ H vs us Q I r h
  obtain ⟨a, xs, rfl, hs, ht, q⟩ := h
  rw [Vals.ref1 r]
  have htt : ∀ p ∈ xs, SqT X.K H p.1 (p.2.map V.int) := fun p hp => (ht p hp).1
  have hkey : ∀ v ∈ (xs.map fun p => Value.ref p.1), IsTI s.heap v (keyAt xs v) ∧ keyAt xs v ≠ [] := fun v hv => by
    obtain ⟨p, hp, rfl⟩ := List.mem_map.mp hv
    rw [keyAt_mem I htt hp]
    exact ⟨isTI_of I (htt p hp), (ht p hp).2⟩
  have fin : xs.length ≤ sizeLine → ∀ out : List Value, SrtO.Srtd (fun v u => Dl.lx (keyAt xs v) (keyAt xs u)) out → SrtO.Stb (fun v u => Dl.lx (keyAt xs v) (keyAt xs u)) out (xs.map fun p => Value.ref p.1) →
      EP X pins σ Q (.ref (s.heap.objs.size + 1)) { s with heap := sortedAll s.heap (xs.map fun p => Value.ref p.1) out.toArray } := fun hz out h1 h2 => by
    obtain ⟨ys, hp, rfl⟩ := perm_lift h2.perm
    obtain ⟨ep, he'⟩ := PyProof.Rows.sortedAll_at s.heap (xs.map fun p => Value.ref p.1) (ys.map fun p => Value.ref p.1).toArray
    refine ⟨.ref _, upd H (s.heap.objs.size + 1) (.lst (ys.map fun p => V.ref p.1)), I.laid (t' := s.toks) (fun _ _ => PyProof.Rows.sortedAll_old) (Nat.le_succ _) ⟨by rw [List.length_map, hp.length_eq]; exact hz, _, ep, vals_refs ys, he'⟩, rfl, q ys _ hp ?_ (I.hok.fresh (Nat.le_succ _))⟩
    have h3 : (ys.map fun p => Value.ref p.1).Pairwise (fun v u => Dl.lx (keyAt xs u) (keyAt xs v) = false) := h1
    rw [List.pairwise_map] at h3 ⊢
    have mem : ∀ {l : List (Addr × List Int)}, (∀ p ∈ l, p ∈ xs) → l.Pairwise (fun p q => Dl.lx (keyAt xs (.ref q.1)) (keyAt xs (.ref p.1)) = false) → l.Pairwise (fun p q => Dl.lle p.2 q.2) := fun {l} hm h => by
      induction l with
      | nil => exact .nil
      | cons x l ih =>
        have h' := List.pairwise_cons.mp h
        refine List.pairwise_cons.mpr ⟨fun y hy => ?_, ih (fun p hp => hm p (List.mem_cons_of_mem _ hp)) h'.2⟩
        have := h'.1 y hy
        rw [keyAt_mem I htt (hm x List.mem_cons_self), keyAt_mem I htt (hm y (List.mem_cons_of_mem _ hy))] at this
        exact this
    exact mem (fun p hp' => hp.mem_iff.mp hp') h3
  have hsort : ∀ (h₁ : Heap) (b : Addr), h₁.get? b = some (seqObj "list" (xs.map fun p => Value.ref p.1).toArray 0) → (∀ c o, s.heap.get? c = some o → c ≠ b ∧ h₁.get? c = some o) → 2 ≤ (xs.map fun p => Value.ref p.1).length →
      SrtO.SortableO X.prog X.w X.A.in1.in1 { s with heap := h₁ } b (xs.map fun p => Value.ref p.1) (fun v u => Dl.lx (keyAt xs v) (keyAt xs u)) := fun h₁ b hb kk h2 => by
    refine tups_sortableO (s := { s with heap := h₁ }) (by omega) (fun v hm => ⟨(hkey v hm).1.keeps fun b o e _ => (kk b o e).2, (hkey v hm).2⟩) fun o e => ?_
    have e' : some o = some (seqObj "list" (xs.map fun p => Value.ref p.1).toArray 0) := e.symm.trans hb
    cases e'
    intro c
    exact absurd (Value.type.inj c) (by decide)
  rcases hs with hs | hs
  · obtain ⟨its, rv, hl, hz⟩ := I.list hs
    have e := refs_vals rv
    subst e
    rw [List.length_map] at hz
    exact SrtO.sorted_ord (swo_lx (keyAt xs)) hl.isList (by rw [List.length_map]; exact hz) (fun h2 h₁ b hb kk => hsort h₁ b hb kk h2) (fin hz)
  · obtain ⟨its, rv, hl, hz⟩ := I.tuple hs
    have e := refs_vals rv
    subst e
    rw [List.length_map] at hz
    exact sorted_ordT (swo_lx (keyAt xs)) hl (by rw [List.length_map]; exact hz) (fun h2 h₁ b hb kk => hsort h₁ b hb kk h2) (fin hz)
end
end Dr

namespace Dr
open PySem PySem.Spec PyProof.Rows L2
theorem meets_enum_newT (l : Addr) (items : Array Value) (n : Nat) (dct : Option Addr) (sl : Array (Option Value)) :
    Meets (Builtin.«enumerate.__new__» ⟨[.type "enumerate", .ref l], []⟩) (fun _ R s => s.heap.get? l = some { cls := .type "tuple", dict := dct, data := .seq items n, slots := sl } ∧
      R (.ok (.ret (.ref (s.heap.push { cls := .type "tuple_iterator", data := .fields #[.ref l, .int 0 0] }).objs.size)))
        { s with heap := (s.heap.push { cls := .type "tuple_iterator", data := .fields #[.ref l, .int 0 0] }).push { cls := .type "enumerate", data := .fields #[.none, .bool false, .ref s.heap.objs.size, rawInt 0, .none, .none] } }) :=
  .of_wp fun prog w A R s h => by
    obtain ⟨hp, g, d, tk, os⟩ := s; obtain ⟨hl, h⟩ := h
    have hsub := sub_enumerate
    have hL : Heap.IsTuple (Shared.heap ⟨hp, g, d, tk, os⟩) l items := ⟨_, hl, rfl, n, rfl⟩
    wp_walk using AutoSeq1.wpAny_loadPart' hl
    refine wpAny_stack_any fun st => wpAny_pure ?_
    split
    · rename_i c _ _ _ _ _
      cases (c == Value.type "enumerate")
      · wp_walk using AutoSeq1.wpAny_loadPart' hl, wpAny_pyIter_tuple hL
        exact ⟨_, rfl, h⟩
      · wp_walk using AutoSeq1.wpAny_loadPart' hl, wpAny_pyIter_tuple hL
        exact ⟨_, rfl, h⟩
    · wp_walk using AutoSeq1.wpAny_loadPart' hl, wpAny_pyIter_tuple hL
      exact ⟨_, rfl, h⟩
theorem call_enum_tup {prog : Program} {w : World} {A : Around} {E : Value → Shared → Prop} {s : Shared} {l : Addr} {items : Array Value} {Q : Value → Shared → Prop} (hL : s.heap.IsTuple l items)
    (h : ∀ h', IsEnum h' (s.heap.objs.size + 1) s.heap.objs.size 0 .none → h'.IsTupleIter s.heap.objs.size l 0 → h'.objs.size = s.heap.objs.size + 2 →
      (∀ b o, s.heap.get? b = some o → h'.get? b = some o) → Q (.ref (s.heap.objs.size + 1)) { s with heap := h' }) :
    wpAny (model prog w) A (call (.type "enumerate") [.ref l]) Q E s := by
  obtain ⟨⟨c, dct, dt, sl⟩, hl, hc, n, hd⟩ := hL
  replace hc : c = .type "tuple" := hc
  replace hd : dt = .seq items n := hd
  subst hc hd
  refine callType_new F.called_enumerate (by decide) (F.typeCall_enumerate_1 _) (F.newCall_enumerate_1 _) (fun obj => F.args_object_init_2 obj _) F.entry_enumerate_new
    (meets_enum_newT l items n dct sl) ⟨hl, ?_⟩
  have hz : (s.heap.push { cls := .type "tuple_iterator", data := .fields #[.ref l, .int 0 0] }).objs.size = s.heap.objs.size + 1 := Heap.size_push ..
  show _ ∧ _
  rw [hz]
  have he : IsEnum ((s.heap.push { cls := .type "tuple_iterator", data := .fields #[.ref l, .int 0 0] }).push
      { cls := .type "enumerate", data := .fields #[.none, .bool false, .ref s.heap.objs.size, rawInt 0, .none, .none] }) (s.heap.objs.size + 1) s.heap.objs.size 0 .none := by
    have := Heap.get?_push_size (s.heap.push { cls := .type "tuple_iterator", data := .fields #[.ref l, .int 0 0] })
      (o := { cls := .type "enumerate", data := .fields #[.none, .bool false, .ref s.heap.objs.size, rawInt 0, .none, .none] }) rfl
    rw [hz] at this; exact this
  refine ⟨⟨_, he, rfl⟩, h _ he ⟨_, Heap.get?_push_of_some _ (Heap.get?_push_size _ rfl), rfl, rfl⟩ (by rw [Heap.size_push, hz]) fun b o x => Heap.get?_push_of_some _ (Heap.get?_push_of_some _ x)⟩
theorem enumT_end {prog : Program} {w : World} {A : Around} {E : Value → Shared → Prop} {s : Shared} {e it l : Addr} {i : Nat} {items : Array Value} {old : Value} {Q : Option Value → Shared → Prop} (hh : A.handled = none)
    (he : IsEnum s.heap e it i old) (hit : s.heap.IsTupleIter it l i) (hl : s.heap.IsTuple l items) (hx : items[i]? = none)
    (hQ : ∀ h', Heap.ExtBut it s.heap h' → Q none { s with heap := h' }) : wpAny (model prog w) A (pyNext (.ref e)) Q E s := by
  have hT : s.TypeIs (.ref e) "enumerate" := ⟨_, he, rfl⟩
  unfold pyNext
  refine wpAny_bind (wpAny_attempt (wpAny_callSpecial?_slot (name := Str.ofString "__next__") hT F.slot_enumerate_next
    (wpAny_call_entry F.slot_enumerate_next hT F.entry_enumerate_next ?_ (F.args_enumerate_next_1 _))))
  show wpAny _ _ (field (.ref e) 2 >>= _) _ _ _
  refine wpAny_bind (wpAny_field he rfl (x := .ref it) rfl ?_)
  refine wpAny_bind (wpAny_nextOf_tuple_end hh hit hl hx fun h' x he' hx' => ?_)
  obtain ⟨o, ho, hc⟩ := hx'
  refine wpAny_bind (wpAny_isInstance (T := "StopIteration") (b := true) ⟨o, ho, hc⟩ isSubtype_stop ?_)
  exact wpAny_pure (hQ _ he')
/-- the tuple at a, each item in a new pair -/
def IteT (K : PySem.W.Frag) (a : Addr) : It :=
  ⟨fun i H => ∃ (xs : List V) (x : V), SqT K H a xs ∧ xs[i]? = some x, fun i H v H' => ∃ T x, v = .ref T ∧ H T = none ∧ H' = upd H T (.tup [.int (i : Nat), x]) ∧ ∀ xs, SqT K H a xs → xs[i]? = some x, fun i H => ∃ xs : List V, SqT K H a xs ∧ xs.length ≤ i⟩
theorem turn_enumT {P : Program} {w : World} {K : PySem.W.Frag} {elts : List Expr} {kk : Nat} {tpos : Pos} (a e it : Addr) (hai : a ≠ it) (hae : a ≠ e) :
    Turn P w K (.Tuple elts kk tpos) (IteT K a) [e, it] e (fun i h => (∃ old, IsEnum h e it ((i : Nat) : Int) old) ∧ h.IsTupleIter it a i ∧ e ≠ it) where
  mem := by simp
  obj := fun i h st b hb => by
    obtain ⟨⟨old, he⟩, ⟨o, ho, hc, hd⟩, _⟩ := st
    have e' : b = e ∨ b = it := by simpa using hb
    rcases e' with z | z
    · rw [z]; exact ⟨_, he, fun v q => nomatch q⟩
    · rw [z]; exact ⟨o, ho, fun v q => by rw [hd] at q; cases q⟩
  keep := fun i h h' st k => let ⟨⟨old, he⟩, hi, hne⟩ := st; ⟨⟨old, k e (by simp) _ he⟩, hi.at fun o q => k it (by simp) o q, hne⟩
  item := by
    intro X hP hw hK hc i pins s σ H E I hf st hg
    subst hP hw hK
    obtain ⟨⟨old, he⟩, hit, hne⟩ := st
    obtain ⟨xs, x, hq, hx⟩ := hg
    obtain ⟨its, rv, p, hz⟩ := I.tuple hq
    obtain ⟨u, hu, ru⟩ := rv.get hx
    have hel : e < s.heap.objs.size := Heap.lt_size he
    have hil : it < s.heap.objs.size := by obtain ⟨_, q, _⟩ := hit; exact Heap.lt_size q
    have D := Draws.tuple (prog := X.prog) (w := X.w) (A := X.A.in1) (I.ok.hd hc) it a hai its.toArray
    have hlt : i < its.toArray.size := by
      have := (List.getElem?_eq_some_iff.mp hu).1
      simpa using this
    refine wpAny_pyNext_enum_itemD D he ⟨hit, p⟩ hlt hne (by simp [hne, hae.symm]) fun x' h' tk hx' ho hit' hT hsz hk => ?_
    have ex : x' = u := by
      have : its.toArray[i]? = some u := by simpa using hu
      rw [this] at hx'
      exact (Option.some.inj hx').symm
    subst ex
    refine ⟨_, rfl, wpAny_letOwnedTupleGo_enum (s := { s with heap := h', toks := tk + 1 }) ho fun h'' he' sb => ?_⟩
    have hT2 : h''.get? s.heap.objs.size = some { cls := .type "tuple", data := .seq #[.int i tk, x'] } := (sb.2 _ (Nat.ne_of_gt hel)).trans hT
    have new : ObjOk X.prog X.w (upd H s.heap.objs.size (.tup [.int (i : Nat), x])) h'' s.heap.objs.size (.tup [.int (i : Nat), x]) :=
      ⟨by show 2 ≤ sizeLine; decide, [.int i tk, x'], .cons ⟨_, rfl⟩ (.cons ru .nil), ⟨_, hT2, rfl, _, rfl⟩⟩
    have I1 : Inv X pins σ (upd H s.heap.objs.size (.tup [.int (i : Nat), x])) { s with heap := h'', toks := tk + 1 } :=
      I.turnedNew (ch := [e, it]) (fun b ob hb q => (sb.2 b (fun z => hb (by simp [z]))).trans (hk b ob (fun z => hb (by simp [z])) (fun z => hb (by simp [z])) q)) hf (Nat.le_refl _) new
    refine ⟨.ref s.heap.objs.size, _, I1, rfl, ⟨_, x, rfl, I.hok.fresh (Nat.le_refl _), rfl, fun ys hy => by rw [I.tuple_inj hy hq]; exact hx⟩, ⟨⟨x', ?_⟩, hit'.1.at fun o q => (sb.2 it (Ne.symm hne)).trans q, hne⟩, fun b hb => ?_⟩
    · have e1 : ((i + 1 : Nat) : Int) = (i : Int) + 1 := by omega
      rw [e1]; exact he'
    · have hb' : b < s.heap.objs.size := by
        have e' : b = e ∨ b = it := by simpa using hb
        rcases e' with z | z
        · rw [z]; exact hel
        · rw [z]; exact hil
      rw [upd_ne (Nat.ne_of_lt hb')]
      exact (hf b hb).1
  done := by
    intro X hP hw hK hc i pins s σ H E I hf st hg
    subst hP hw hK
    obtain ⟨⟨old, he⟩, hit, hne⟩ := st
    obtain ⟨xs, hq, hx⟩ := hg
    obtain ⟨its, rv, p, hz⟩ := I.tuple hq
    obtain ⟨f0, f1, f2, f3, f4, f5⟩ := hf it (by simp)
    have hl := rv.length
    exact enumT_end (I.ok.hd hc) he hit p (by simp; omega) fun h' eb => ⟨rfl, I.turned (t' := s.toks) (fun b o hb q => eb b o hb q) f0 f1 f3 f4 f5⟩
  self := fun A i s Q E st h => let ⟨⟨_, he⟩, _⟩ := st; wpAny_pyIter_enum he h
def iEnumT (K : PySem.W.Frag) (ta : TA) : TI := fun σ H R => ta σ H fun vs H1 => ∃ a xs, vs = [.ref a] ∧ SqT K H1 a xs ∧ R (IteT K a) H1
theorem pi_enumT {X : Cx} {e : Expr} {ta : TA} {p pos tpos : Pos} {elts : List Expr} {kk : Nat} (hg : Gl X "enumerate") (hm : X.mg "enumerate" = none) (ha : PA X [e] ta) (hs : starEach [e] X.env = [(false, eval e X.env)] := by rfl) :
    PI X (.Tuple elts kk tpos) (.Call (.Name "enumerate" p) [e] [] pos) (iEnumT X.K ta) := by
  refine ⟨fun pins s σ H R I h => ?_⟩
  refine Call_ (ld_blt I hg hm boot_enumerate (PyProof.Rows.callWith_type1 (thn (ha.run pos pins s σ H _ I h) fun us s1 ⟨vs, H1, I1, r1, q1⟩ => ?_) hs rfl))
  obtain ⟨a, xs, ex, hq, q⟩ := q1
  subst ex
  cases r1 with
  | cons r rr =>
    cases rr
    cases r
    obtain ⟨its, rv, p', hz⟩ := I1.tuple hq
    have la : a < s1.heap.objs.size := p'.lt
    refine call_enum_tup p' fun h' he hit hsz hk => wpAny_pyIter_enum he ?_
    have I2 : Inv X pins σ H1 { s1 with heap := h' } := I1.kept (t' := s1.toks) hk
    refine ⟨s1.heap.objs.size + 1, [s1.heap.objs.size + 1, s1.heap.objs.size], _, _, H1, rfl, I2, turn_enumT a (s1.heap.objs.size + 1) s1.heap.objs.size (Nat.ne_of_lt la) (Nat.ne_of_lt (Nat.lt_succ_of_lt la)), ⟨⟨.none, he⟩, hit, Nat.succ_ne_self _⟩, fun b hb => ?_, q⟩
    have e' : b = s1.heap.objs.size + 1 ∨ b = s1.heap.objs.size := by simpa using hb
    have hle : s1.heap.objs.size ≤ b := by
      rcases e' with z | z
      · rw [z]; exact Nat.le_add_right _ _
      · rw [z]; exact Nat.le_refl _
    exact I1.fpOk hle (I1.hok.fresh hle)
theorem walk_enumT {K : PySem.W.Frag} {a : Addr} {xs : List V} : Walk (IteT K a) xs.length (fun H => SqT K H a xs) (YPair (fun i => some (.int (i : Nat))) (fun i => xs[i]?)) := by
  refine ⟨fun i _ hi q => ⟨xs, xs[i], q, by simp [hi]⟩, fun _ q => ⟨xs, q, Nat.le_refl _⟩, fun i H v H' _ q y => ?_⟩
  obtain ⟨T, x, h1, h2, h3, h4⟩ := y
  exact ⟨T, .int (i : Nat), x, h1, h2, h3, rfl, h4 xs q⟩
/-! ### zip of a list and a tuple -/
def ItzM (K : PySem.W.Frag) (a b : Addr) : It :=
  ⟨fun i H => ∃ (xs ys : List V) (x y : V), SqL K H a xs ∧ SqT K H b ys ∧ xs[i]? = some x ∧ ys[i]? = some y,
    fun i H v H' => ∃ T x y, v = .ref T ∧ H T = none ∧ H' = upd H T (.tup [x, y]) ∧ (∀ xs, SqL K H a xs → xs[i]? = some x) ∧ ∀ ys, SqT K H b ys → ys[i]? = some y,
    fun i H => ∃ xs ys : List V, SqL K H a xs ∧ SqT K H b ys ∧ (xs.length = i ∧ i ≤ ys.length ∨ ys.length = i ∧ i ≤ xs.length)⟩
theorem turn_zipM {P : Program} {w : World} {K : PySem.W.Frag} {elts : List Expr} {kk : Nat} {tpos : Pos} {a b z TI TO i1 i2 : Addr} (S : ZipSep2 z TI TO i1 i2 [i1, a] [i2, b]) (ha1 : a ≠ i1) (hb2 : b ≠ i2) :
    Turn P w K (.Tuple elts kk tpos) (ItzM K a b) [z, TI, TO, i1, i2] z (fun i h => IsZip h z TI TO .none ∧ IsTupOf2 h TI (.ref i1) (.ref i2) ∧ (∃ x y, IsTupOf2 h TO x y) ∧ h.IsListIter i1 a i ∧ h.IsTupleIter i2 b i) where
  mem := by simp
  obj := fun i h st c hc => by
    obtain ⟨hz, hTI, ⟨x, y, hTO⟩, ⟨o1, e1, _, d1⟩, ⟨o2, e2, _, d2⟩⟩ := st
    have e' : c = z ∨ c = TI ∨ c = TO ∨ c = i1 ∨ c = i2 := by simpa using hc
    rcases e' with q | q | q | q | q
    · rw [q]; exact ⟨_, hz, fun v q => nomatch q⟩
    · rw [q]; exact ⟨_, hTI, fun v q => nomatch q⟩
    · rw [q]; exact ⟨_, hTO, fun v q => nomatch q⟩
    · rw [q]; exact ⟨o1, e1, fun v q => by rw [d1] at q; cases q⟩
    · rw [q]; exact ⟨o2, e2, fun v q => by rw [d2] at q; cases q⟩
  keep := fun i h h' st k => by
    obtain ⟨hz, hTI, ⟨x, y, hTO⟩, h1, h2⟩ := st
    exact ⟨k z (by simp) _ hz, k TI (by simp) _ hTI, ⟨x, y, k TO (by simp) _ hTO⟩, h1.at fun o q => k i1 (by simp) o q, h2.at fun o q => k i2 (by simp) o q⟩
  item := by
    intro X hP hw hK hc i pins s σ H E I hf st hg
    subst hP hw hK
    obtain ⟨hz, hTI, ⟨x0, y0, hTO⟩, h1, h2⟩ := st
    obtain ⟨xs, ys, x, y, hqx, hqy, hx, hy⟩ := hg
    obtain ⟨its, rv, p, _⟩ := I.list hqx
    obtain ⟨its2, rv2, p2, _⟩ := I.tuple hqy
    obtain ⟨u, hu, ru⟩ := rv.get hx
    obtain ⟨u2, hu2, ru2⟩ := rv2.get hy
    have hzl : z < s.heap.objs.size := Heap.lt_size hz
    have D1 := Draws.list (prog := X.prog) (w := X.w) (A := X.A.in1) (I.ok.hd hc) i1 a ha1 its.toArray
    have D2 := Draws.tuple (prog := X.prog) (w := X.w) (A := X.A.in1) (I.ok.hd hc) i2 b hb2 its2.toArray
    have lt1 : i < its.toArray.size := by have := (List.getElem?_eq_some_iff.mp hu).1; simpa using this
    have lt2 : i < its2.toArray.size := by have := (List.getElem?_eq_some_iff.mp hu2).1; simpa using this
    refine wpAny_pyNext_zipD2_item S D1 D2 hz hTI hTO ⟨h1, p.isList⟩ ⟨h2, p2⟩ lt1 lt2 fun x1 x2 h' tk px1 px2 z' TO' h1' h2' hT hsz hk => ?_
    have ex1 : x1 = u := by
      have : its.toArray[i]? = some u := by simpa using hu
      rw [this] at px1
      exact (Option.some.inj px1).symm
    have ex2 : x2 = u2 := by
      have : its2.toArray[i]? = some u2 := by simpa using hu2
      rw [this] at px2
      exact (Option.some.inj px2).symm
    subst ex1 ex2
    refine ⟨_, rfl, wpAny_letOwnedTupleGo_zip (s := { s with heap := h', toks := tk }) z' fun h'' z'' sb => ?_⟩
    have hT2 : h''.get? s.heap.objs.size = some { cls := .type "tuple", data := .seq #[x1, x2] } := (sb.2 _ (Nat.ne_of_gt hzl)).trans hT
    have new : ObjOk X.prog X.w (upd H s.heap.objs.size (.tup [x, y])) h'' s.heap.objs.size (.tup [x, y]) :=
      ⟨by show 2 ≤ sizeLine; decide, [x1, x2], .cons ru (.cons ru2 .nil), ⟨_, hT2, rfl, _, rfl⟩⟩
    have I1 : Inv X pins σ (upd H s.heap.objs.size (.tup [x, y])) { s with heap := h'', toks := tk } :=
      I.turnedNew (t' := tk) (ch := [z, TI, TO, i1, i2]) (fun c o hb q => (sb.2 c (fun q' => hb (by simp [q']))).trans (hk c o (fun q' => hb (by simp [q'])) (fun q' => hb (by simp [q'])) (fun q' => hb (by simp [q'])) (fun q' => hb (by simp [q'])) q)) hf (Nat.le_refl _) new
    refine ⟨.ref s.heap.objs.size, _, I1, rfl, ⟨_, x, y, rfl, I.hok.fresh (Nat.le_refl _), rfl, fun l hl => by rw [I.list_inj hl hqx]; exact hx, fun l hl => by rw [I.tuple_inj hl hqy]; exact hy⟩, ⟨z'', ?_, ⟨x1, x2, ?_⟩, ?_, ?_⟩, fun c hcm => ?_⟩
    · exact (sb.2 _ S.TIz).trans (hk _ _ S.TIz S.TITO S.TIi1 S.TIi2 hTI)
    · exact (sb.2 _ S.TOz).trans TO'
    · exact h1'.1.at fun o q => (sb.2 _ (Ne.symm S.zi1)).trans q
    · exact h2'.1.at fun o q => (sb.2 _ (Ne.symm S.zi2)).trans q
    · have hlt : c < s.heap.objs.size := by
        have e' : c = z ∨ c = TI ∨ c = TO ∨ c = i1 ∨ c = i2 := by simpa using hcm
        rcases e' with q | q | q | q | q
        · rw [q]; exact hzl
        · rw [q]; exact Heap.lt_size hTI
        · rw [q]; exact Heap.lt_size hTO
        · rw [q]; obtain ⟨_, e1, _⟩ := h1; exact Heap.lt_size e1
        · rw [q]; obtain ⟨_, e2, _⟩ := h2; exact Heap.lt_size e2
      rw [upd_ne (Nat.ne_of_lt hlt)]
      exact (hf c hcm).1
  done := by
    intro X hP hw hK hc i pins s σ H E I hf st hg
    subst hP hw hK
    obtain ⟨hz, hTI, ⟨x0, y0, hTO⟩, h1, h2⟩ := st
    obtain ⟨xs, ys, hqx, hqy, hend⟩ := hg
    obtain ⟨its, rv, p, _⟩ := I.list hqx
    obtain ⟨its2, rv2, p2, _⟩ := I.tuple hqy
    have l1 := rv.length
    have l2 := rv2.length
    have D1 := Draws.list (prog := X.prog) (w := X.w) (A := X.A.in1) (I.ok.hd hc) i1 a ha1 its.toArray
    have D2 := Draws.tuple (prog := X.prog) (w := X.w) (A := X.A.in1) (I.ok.hd hc) i2 b hb2 its2.toArray
    have s1 : its.toArray.size = xs.length := by rw [List.size_toArray, l1]
    have s2 : its2.toArray.size = ys.length := by rw [List.size_toArray, l2]
    exact wpAny_pyNext_zipD2_end S D1 D2 hz hTI hTO ⟨h1, p.isList⟩ ⟨h2, p2⟩ (by rw [s1]; omega) (by rw [s2]; omega) (by rw [s1, s2]; omega) fun h' tk hk => ⟨rfl, I.turnedL (t' := tk) (ch := [z, TI, TO, i1, i2]) (fun c o hb q =>
      hk c o (fun q' => hb (by simp [q'])) (fun q' => hb (by simp [q'])) (fun q' => hb (by simp [q'])) (fun q' => hb (by simp [q'])) q) hf⟩
  self := fun A i s Q E st h => wpAny_pyIter_zip st.1 h
def iZipM (K : PySem.W.Frag) (ta : TA) : TI := fun σ H R => ta σ H fun vs H1 => ∃ a b xs ys, vs = [.ref a, .ref b] ∧ SqL K H1 a xs ∧ SqT K H1 b ys ∧ R (ItzM K a b) H1
theorem pi_zipM {X : Cx} {e e2 : Expr} {ta : TA} {p pos tpos : Pos} {elts : List Expr} {kk : Nat} (hg : Gl X "zip") (hm : X.mg "zip" = none) (ha : PA X [e, e2] ta)
    (hs : starEach [e, e2] X.env = (false, eval e X.env) :: starEach [e2] X.env := by rfl) (hpl : (backTo pos (starEach [e2] X.env)).any (·.1) = false := by rfl) :
    PI X (.Tuple elts kk tpos) (.Call (.Name "zip" p) [e, e2] [] pos) (iZipM X.K ta) := by
  refine ⟨fun pins s σ H R I h => ?_⟩
  refine Call_ (ld_blt I hg hm PyProof.Rows.boot_zip (PyProof.Rows.callWith_type1 (thn (ha.run pos pins s σ H _ I h) fun us s1 ⟨vs, H1, I1, r1, q1⟩ => ?_) hs hpl))
  obtain ⟨a, b, xs, ys, ex, hqx, hqy, q⟩ := q1
  subst ex
  cases r1 with
  | cons r rr =>
    cases rr with
    | cons r' rr =>
      cases rr
      cases r
      cases r'
      obtain ⟨its, rv, p1, _⟩ := I1.list hqx
      obtain ⟨its2, rv2, p2, _⟩ := I1.tuple hqy
      have la : a < s1.heap.objs.size := p1.lt
      have lb : b < s1.heap.objs.size := p2.lt
      have B1 := begins_list a its.toArray
      have B2 := begins_tuple b its2.toArray
      refine zip_begins2 B1 B2 p1.isList p2 fun h' hz hTI hTO h1 h2 hsz hk => wpAny_pyIter_zip hz ?_
      have I2 : Inv X pins σ H1 { s1 with heap := h' } := I1.kept (t' := s1.toks) hk
      have S : ZipSep2 (s1.heap.objs.size + 4) (s1.heap.objs.size + 2) (s1.heap.objs.size + 3) s1.heap.objs.size (s1.heap.objs.size + 1) [s1.heap.objs.size, a] [s1.heap.objs.size + 1, b] :=
        zip_sep2 (fun c hc => by rw [List.mem_singleton.mp hc]; exact la) (fun c hc => by rw [List.mem_singleton.mp hc]; exact lb)
      refine ⟨s1.heap.objs.size + 4, [s1.heap.objs.size + 4, s1.heap.objs.size + 2, s1.heap.objs.size + 3, s1.heap.objs.size, s1.heap.objs.size + 1], _, _, H1, rfl, I2, turn_zipM S (Nat.ne_of_lt la) (Nat.ne_of_lt (Nat.lt_succ_of_lt lb)), ⟨hz, hTI, ⟨_, _, hTO⟩, ⟨_, h1, rfl, rfl⟩, ⟨_, h2, rfl, rfl⟩⟩, fun c hcm => ?_, q⟩
      have e' : c = s1.heap.objs.size + 4 ∨ c = s1.heap.objs.size + 2 ∨ c = s1.heap.objs.size + 3 ∨ c = s1.heap.objs.size ∨ c = s1.heap.objs.size + 1 := by simpa using hcm
      have hle : s1.heap.objs.size ≤ c := by
        rcases e' with z | z | z | z | z
        · rw [z]; exact Nat.le_add_right _ _
        · rw [z]; exact Nat.le_add_right _ _
        · rw [z]; exact Nat.le_add_right _ _
        · rw [z]; exact Nat.le_refl _
        · rw [z]; exact Nat.le_add_right _ _
      exact I1.fpOk hle (I1.hok.fresh hle)
theorem walk_zipM {K : PySem.W.Frag} {a b : Addr} {xs ys : List V} {n : Nat} (hn : n = min xs.length ys.length) : Walk (ItzM K a b) n (fun H => SqL K H a xs ∧ SqT K H b ys) (YPair (fun i => xs[i]?) (fun i => ys[i]?)) := by
  subst hn
  refine ⟨fun i _ hi q => ?_, fun _ q => ⟨xs, ys, q.1, q.2, by omega⟩, fun i H v H' _ q y => ?_⟩
  · have h1 : i < xs.length := by omega
    have h2 : i < ys.length := by omega
    exact ⟨xs, ys, xs[i], ys[i], q.1, q.2, by simp [h1], by simp [h2]⟩
  · obtain ⟨T, x, z, h1, h2, h3, h4, h5⟩ := y
    exact ⟨T, x, z, h1, h2, h3, h4 xs q.1, h5 ys q.2⟩
/-! ### t * 1 -/
def rRep1 (K : PySem.W.Frag) : R2 := fun x y H Q => ∃ l xs, x = .ref l ∧ y = .int 1 ∧ SqT K H l xs ∧ Q (.ref l) H
theorem tuple_mul1 (l : Addr) (items : Array Value) (n : Nat) (dd : Option Addr) (sl : Array (Option Value)) (u : Tok) :
    Meets (Builtin.«tuple.__mul__» ⟨[.ref l, .int 1 u], []⟩) (fun _ R s => s.heap.get? l = some { cls := .type "tuple", dict := dd, data := .seq items n, slots := sl } ∧ R (.ok (.ret (Value.ref l))) s) :=
  .of_wp fun prog w A R s h => by
    obtain ⟨hp, g, d, tk, os⟩ := s
    obtain ⟨hl, h⟩ := h
    have f1 := AutoSeq1.idx_int
    have f2 := AutoSeq1.sub_tuple_tuple
    wp_walk using AutoSeq1.wpAny_loadPart' hl
    all_goals exact ⟨_, rfl, h⟩
section
variable {X : Cx}
theorem op_rep1 : OpR X (binaryOp .Mult) (rRep1 X.K) := by
  intro pins s σ H x y v u Q I rx ry h
  obtain ⟨l, xs, rfl, rfl, hT, q⟩ := h
  cases rx
  obtain ⟨t, rfl⟩ := ry
  obtain ⟨its, r, ⟨⟨cls, dd, data, sl⟩, ho, hc, n, hd⟩, hs⟩ := I.tuple hT
  simp only at hc hd
  subst hc hd
  refine wpAny_binaryOp_repeat_ref (T := "tuple") (U := "int") (by decide) ⟨_, ho, rfl⟩ (fun s' => typeIs_int s' 1 t) noFill_tuple_mul F.fills_int_mul F.slot_int_rmul repeat_tuple F.slot_int_index.lookup
    (call_meets F.slot_int_rmul (typeIs_int s 1 t) F.entry_int_rmul (F.args_int_rmul_2 _ _) (int_rmul_tuple 1 t l its.toArray n dd sl)
      ⟨ho, rfl, ⟨_, ho, rfl⟩, call_meets F.slot_tuple_mul ⟨_, ho, rfl⟩ F.entry_tuple_mul (F.args_tuple_mul_2 _ _) (tuple_mul1 l its.toArray n dd sl t) ⟨ho, ?_⟩⟩)
  exact ⟨.ref l, H, I, rfl, q⟩
end
end Dr

/-! Tuples whose own object is known: their methods may be called -/
namespace Dr
open PySem PySem.Spec PyProof.Rows L2 HT
/-- a tuple of xs at a, without a dict of its own -/
def XT (H : Hp) (a : Addr) (xs : List V) : Prop := ∃ o : Obj, H a = some (.frz o (.tup xs)) ∧ o.dict = none
theorem XT.sqT {K : PySem.W.Frag} {H : Hp} {a : Addr} {xs : List V} (h : XT H a xs) : SqT K H a xs := let ⟨o, e, _⟩ := h; .inl (.inr ⟨o, e⟩)
section
variable {X : Cx} {pins : List (Addr × Obj)} {σ : L2.St} {H : Hp} {s : Shared}
theorem laidX {xs : List V} {its : List Value} {n : Nat} {tk : Nat} {h' : Heap} {p : Addr} (I : Inv X pins σ H s) (k : ∀ b u, s.heap.get? b = some u → h'.get? b = some u) (hp : s.heap.objs.size ≤ p) (r : Vals xs its) (z : xs.length ≤ sizeLine)
    (e : h'.get? p = some { cls := .type "tuple", data := .seq its.toArray n }) : Inv X pins σ (upd H p (.frz { cls := .type "tuple", data := .seq its.toArray n } (.tup xs))) { s with heap := h', toks := tk } :=
  I.laid k hp ⟨e, z, its, r, ⟨_, e, rfl, n, rfl⟩⟩
def rNewX (xs : List V) (H : Hp) (Q : VK) : Prop := ∀ (p : Addr) (o : Obj), H p = none → o.dict = none → Q (.ref p) (upd H p (.frz o (.tup xs)))
def tTupX (t : TA) : TE := fun σ H Q => t σ H fun xs H1 => xs.length ≤ sizeLine ∧ rNewX xs H1 Q
theorem pe_tupX {es : List Expr} {t : TA} {pos : Pos} {x1} (h : PA X es t) : PE X (.Tuple es x1 pos) (tTupX t) := by
  refine ⟨fun pins s σ H Q I hq => ?_⟩
  refine wpAny_Tuple_spliced (thn (h.run pos pins s σ H _ I hq) fun us s1 ⟨xs, H1, I1, r, z, q⟩ => ⟨by rw [← r.length]; exact z, ?_⟩)
  have hf : H1 s1.heap.objs.size = none := I1.hok.fresh (Nat.le_refl _)
  exact ⟨.ref s1.heap.objs.size, _, laidX (tk := s1.toks) I1 (fun b u e => Heap.get?_push_of_some _ e) (Nat.le_refl _) r z (Heap.get?_push_size _ rfl), rfl, q _ _ hf rfl⟩
/-- tuple(xs), xs a list -/
def rTupX (K : PySem.W.Frag) : List V → Hp → VK → Prop := fun xs H Q => ∃ p ys, xs = [.ref p] ∧ SqL K H p ys ∧ rNewX ys H Q
theorem crTupX (K : PySem.W.Frag) (hK : X.K = K) : CallR X (.type "tuple") (rTupX K) := by
  subst hK
  intro pins s σ H xs us Q I r h
  obtain ⟨p, ys, rfl, hq, q⟩ := h
  obtain ⟨u, rfl, rx⟩ := vals1 r
  cases rx
  obtain ⟨its, r', pl, hz⟩ := I.list hq
  have hlen := r'.length
  refine call_tuple_list pl.isList (fun h' kp => ?_) (by simp only [List.size_toArray] <;> omega)
  have I1 : Inv X pins σ H { s with heap := h' } := I.kept (t' := s.toks) kp
  have I2 : Inv X pins σ (upd H h'.objs.size (.frz { cls := .type "tuple", data := .seq its.toArray } (.tup ys))) { s with heap := h'.push { cls := .type "tuple", data := .seq its.toArray } } :=
    laidX (s := { s with heap := h' }) (n := 0) (tk := s.toks) I1 (fun b o e => Heap.get?_push_of_some _ e) (Nat.le_refl _) r' hz (Heap.get?_push_size _ rfl)
  exact ⟨.ref h'.objs.size, _, I2, rfl, q _ _ (I1.hok.fresh (Nat.le_refl _)) rfl⟩
/-- t[lo:hi], not the whole of it -/
def rSlX (K : PySem.W.Frag) : V → Option Int → Option Int → Hp → VK → Prop := fun x lo hi H Q => ∃ a xs, x = .ref a ∧ SqT K H a xs ∧
  ¬ (HT.sIx xs.length 0 lo = 0 ∧ HT.sIx xs.length xs.length hi = xs.length) ∧ rNewX (cutV xs lo hi) H Q
theorem slX (K : PySem.W.Frag) (hK : X.K = K) : SlR X (rSlX K) := by
  subst hK
  intro pins s σ H x v vl vu lo hi sl Q I rx hs pl pu h
  obtain ⟨a, xs, rfl, hx, hw, q⟩ := h
  cases rx
  obtain ⟨its, r, ht, hz⟩ := I.tuple hx
  have hlen : its.toArray.size = xs.length := by rw [List.size_toArray]; exact r.length.symm
  refine ⟨"tuple", _, PyProof.Rows.slot_tuple_getitem.lookup, ht.typeIs, ?_⟩
  refine HT.getItem_tuple_cut ht hs pl pu (by rw [hlen]; exact hw) ?_ (by rw [hlen]; exact hz)
  rw [hlen]
  exact ⟨.ref s.heap.objs.size, _, laidX (tk := s.toks) I (fun b ob q => Heap.get?_push_of_some _ q) (Nat.le_refl _) ((r.drop (HT.sIx xs.length 0 lo)).take (HT.sIx xs.length xs.length hi - HT.sIx xs.length 0 lo)) (Nat.le_trans (cutV_length xs lo hi) hz) (Heap.get?_push_size _ rfl), rfl, q _ _ (I.hok.fresh (Nat.le_refl _)) rfl⟩
/-- t.m(e, ..), t such a tuple -/
def tBMX (r : V → List V → Hp → VK → Prop) (to : TE) (t : TA) : TE := fun σ H Q => to σ H fun x H1 => (∃ a xs, x = .ref a ∧ XT H1 a xs) ∧ t σ H1 fun xs H2 => r x xs H2 Q
variable {o e : Expr} {es : List Expr} {to : TE} {t : TA} {name : Str} {apos cpos : Pos} {id : String} {r : V → List V → Hp → VK → Prop}
theorem pe_bmX (slot : Slot "tuple" name id) (hty : typeOf (.builtin id) = pure (.type "method_descriptor")) (hm : MtR X id r) (ho : PE X o to) (ha : PA X (e :: es) t)
    (hbase : attributeBase o name X.env (eval o X.env) = eval o X.env := by rfl)
    (hfew : ((backTo cpos (starEach (e :: es) X.env)).all (fun x => !x.1) && (backToKw cpos (keywordEach [] X.env)).all (fun x => x.1.isSome)
      && decide ((e :: es).length + ([] : List Keyword).length + (if ([] : List Keyword).isEmpty then 0 else 1) < 30)) = true := by rfl)
    (hline : (apos.endLine == cpos.line) = true := by rfl) (hs : starEach (e :: es) X.env = (false, eval e X.env) :: starEach es X.env := by rfl) (hplain : (backTo cpos (starEach es X.env)).any (·.1) = false := by rfl) :
    PE X (.Call (.Attribute o name apos) (e :: es) [] cpos) (tBMX r to t) := by
  refine ⟨fun pins s σ H Q I h => ?_⟩
  refine wpAny_Call_method_late hbase hfew hline rfl (thn (ho.run pins s σ H _ I h) fun v s1 ⟨x, H1, I1, r1, ty, q1⟩ => ?_)
  obtain ⟨a, xs, rfl, ob, e1, hd⟩ := ty
  cases r1
  obtain ⟨hg, _, its, rv, o', ho', hc, _⟩ := I1.hok a _ e1
  refine ⟨"tuple", id, PySem.F.plainAttrs_tuple, slot, hty, ⟨o', ho', hc⟩, fun b eb => ?_, ?_⟩
  · cases eb
    exact ⟨ob, hg, hd⟩
  have hA := ha.run cpos pins s1 σ H1 _ I1 q1
  rw [hs] at hA ⊢
  refine Calls.callWith_builtin (by show (false || (backTo cpos (starEach es X.env)).any (·.1)) = false; rw [hplain] <;> rfl) (Calls.evalArgs_plain ?_)
  exact thn hA fun us s2 ⟨vs, H2, I2, r2, q2⟩ => hm pins s2 σ H2 (.ref a) vs _ us Q I2 (show Value.ref a = Value.ref a from rfl) r2 q2
end
end Dr

/-! Ways of saying what a def is worth; data in the heap -/
namespace Dd
open PySem PySem.Spec PyProof.Rows L2 Dr
/-- a def of the text as it stands, and its name -/
structure Giv (K : PySem.W.Frag) (mg : Str → Option Value) (d : He.DefD) : Prop where
  ex : ∃ (f : Addr) (fd : FuncData), mg d.name = some (.ref f) ∧ FunD K d.name d.qual d.params d.body d.scope [] [] f fd
/-- the def called x keeps the promise sp -/
structure Has (P : Program) (w : World) (K : PySem.W.Frag) (mg : Str → Option Value) (base : Heap) (x : Str) (k : Nat) (ps : List Str) (sp : Sp) : Prop where
  ex : ∃ (f : Addr) (fd : FuncData), mg x = some (.ref f) ∧ PySem.W.keepIn K (.ref f) = true ∧ Binds K fd ps [] ∧ FnOk P w K mg base CX0 k f fd ps sp
section
variable {P : Program} {w : World} {K : PySem.W.Frag} {mg : Str → Option Value} {base : Heap}
/-- the body of d keeps the promise sp -/
structure Body (P : Program) (w : World) (K : PySem.W.Frag) (mg : Str → Option Value) (base : Heap) (d : He.DefD) (k : Nat) (ps : List Str) (sp : Sp) : Prop where
  ok : ∀ (f : Addr) (fd : FuncData), FunD K d.name d.qual d.params d.body d.scope [] [] f fd → FnOk P w K mg base CX0 k f fd ps sp
theorem body_mk {d : He.DefD} {N ps : List Str} {k : Nat} {sp : Sp} (S : FnScope N ps d.scope)
    (len : ∀ vs H Q E, sp vs H Q E → vs.length = ps.length)
    (hbody : ∀ (f : Addr) (cdv : Value) (A : Around) (outer : List Env) (s : Shared) (H : Hp) (vs : List V) (Q : VK) (E : XK), Room k (A.deeper (envOfC d.qual d.scope s.heap.objs.size f cdv)) → sp vs H Q E →
      ∃ t, PSs (cxOf CX0 P w K mg base N d.qual d.scope f cdv A outer s H E).nox d.body t ∧ t { nx := fun _ H' => Q .non H', rt := Q } (start N vs) H) : Body P w K mg base d (k + 1) ps sp := by
  refine ⟨fun f fd F => F.ok S len fun cdv A outer s H vs Q E hr h => ?_⟩
  obtain ⟨t, h1, h2⟩ := hbody f cdv A outer s H vs Q E hr h
  exact ⟨t, h1.nox, h2⟩
theorem has_of {d : He.DefD} {ps : List Str} {k : Nat} {sp : Sp} (G : Giv K mg d) (B : Body P w K mg base d k ps sp)
    (hb : ∀ (kV doc pm : Value) (an : Option Addr) (cdv ct : Value) (us : List Value), us.length = ps.length → bindArgs (PySem.W.fnOf d.name d.qual d.params d.body d.scope .none kV doc pm an cdv ct) ⟨us, []⟩ = pure (ps.zip us)) : Has P w K mg base d.name k ps sp := by
  obtain ⟨f, fd, m, F⟩ := G.ex
  exact ⟨f, fd, m, F.kp, F.bindsN hb, B.ok f fd F⟩
theorem has_mk {d : He.DefD} {N ps : List Str} {k : Nat} {sp : Sp} (G : Giv K mg d) (S : FnScope N ps d.scope)
    (hb : ∀ (kV doc pm : Value) (an : Option Addr) (cdv ct : Value) (us : List Value), us.length = ps.length → bindArgs (PySem.W.fnOf d.name d.qual d.params d.body d.scope .none kV doc pm an cdv ct) ⟨us, []⟩ = pure (ps.zip us))
    (len : ∀ vs H Q E, sp vs H Q E → vs.length = ps.length)
    (hbody : ∀ (f : Addr) (cdv : Value) (A : Around) (outer : List Env) (s : Shared) (H : Hp) (vs : List V) (Q : VK) (E : XK), Room k (A.deeper (envOfC d.qual d.scope s.heap.objs.size f cdv)) → sp vs H Q E →
      ∃ t, PSs (cxOf CX0 P w K mg base N d.qual d.scope f cdv A outer s H E).nox d.body t ∧ t { nx := fun _ H' => Q .non H', rt := Q } (start N vs) H) : Has P w K mg base d.name (k + 1) ps sp :=
  has_of G (body_mk S len hbody) hb
theorem Has.mono {x : Str} {j k : Nat} {ps : List Str} {sp : Sp} (h : Has P w K mg base x j ps sp) (hk : j ≤ k) : Has P w K mg base x k ps sp := by
  obtain ⟨f, fd, m, kp, b, F⟩ := h.ex
  exact ⟨f, fd, m, kp, b, F.mono hk⟩
end
section
variable {X : Cx} {x : Str} {k : Nat} {ps : List Str} {sp : Sp} {e : Expr} {es : List Expr} {t : TA} {p pos : Pos}
/-- f(e, ..) -/
theorem pe_has (h : Has X.prog X.w X.K X.mg X.base x k ps sp) (hr : Room k X.A) (ha : PA X (e :: es) t) (hg : Gl X x := by rfl) (hdb : (x == ("__debug__" : Str)) = false := by decide)
    (he : starEach (e :: es) X.env = (false, eval e X.env) :: starEach es X.env := by rfl) (hpl : (backTo pos (starEach es X.env)).any (·.1) = false := by rfl) : PE X (.Call (.Name x p) (e :: es) [] pos) (tCall sp [] E0 t) := by
  obtain ⟨f, fd, m, kp, b, F⟩ := h.ex
  exact pe_call F hr hg m kp b .nil pass0 ha (hdb := hdb) (he := he) (hpl := hpl)
end
/-! ### f(k = e, ..), no positional argument -/
structure KwOk (K : PySem.W.Frag) (fd : FuncData) (ps ks : List Str) (g : List Value → List Value) (gV : List V → List V) : Prop where
  to : ∀ (s : Shared) (ws : List Value), K.In s.heap → (g ws).length = ps.length → BindsTo s fd ⟨[], ks.zip ws⟩ (ps.zip (g ws))
  rel : ∀ {zs : List V} {ws : List Value}, Vals zs ws → Vals (gV zs) (g ws)
structure HasK (P : Program) (w : World) (K : PySem.W.Frag) (mg : Str → Option Value) (base : Heap) (x : Str) (k : Nat) (ps ks : List Str) (gV : List V → List V) (sp : Sp) : Prop where
  ex : ∃ (f : Addr) (fd : FuncData) (g : List Value → List Value), mg x = some (.ref f) ∧ PySem.W.keepIn K (.ref f) = true ∧ KwOk K fd ps ks g gV ∧ FnOk P w K mg base CX0 k f fd ps sp
theorem hasK_of {P : Program} {w : World} {K : PySem.W.Frag} {mg : Str → Option Value} {base : Heap} {d : He.DefD} {ps ks : List Str} {k : Nat} {sp : Sp} (G : Giv K mg d) (B : Body P w K mg base d k ps sp) (g : {α : Type} → List α → List α)
    (hl : ∀ (ws : List Value), (g ws).length = ps.length → ws.length = ks.length)
    (hb : ∀ (kV doc pm : Value) (an : Option Addr) (cdv ct : Value) (ws : List Value), ws.length = ks.length → bindArgs (PySem.W.fnOf d.name d.qual d.params d.body d.scope .none kV doc pm an cdv ct) ⟨[], ks.zip ws⟩ = pure (ps.zip (g ws)))
    (rel : ∀ {zs : List V} {ws : List Value}, Vals zs ws → Vals (g zs) (g ws)) : HasK P w K mg base d.name k ps ks (fun zs => g zs) sp := by
  obtain ⟨f, fd, m, F⟩ := G.ex
  refine ⟨f, fd, fun ws => g ws, m, F.kp, ⟨fun s ws X h => ?_, fun r => rel r⟩, B.ok f fd F⟩
  obtain ⟨oc, od, dV, kV, doc, pm, an, cdv, ct, osl, rfl, lk, hcd, hD, hK⟩ := F.ex
  rcases hD with ⟨_, rfl⟩ | ⟨e, _⟩
  · exact .of_eq (hb kV doc pm an cdv ct ws (hl ws h))
  · exact absurd rfl e
def tKw (sp : Sp) (gV : List V → List V) (tk : TA) : TE := fun σ H Q => tk σ H fun zs H1 => sp (gV zs) H1 Q E0
section
variable {X : Cx} {x : Str} {k : Nat} {ps ks : List Str} {sp : Sp} {kws : List Keyword} {tk : TA} {p pos : Pos} {gV : List V → List V}
theorem pe_hasK (h : HasK X.prog X.w X.K X.mg X.base x k ps ks gV sp) (hr : Room k X.A) (hkw : PK X kws tk) (hg : Gl X x := by rfl) (hdb : (x == ("__debug__" : Str)) = false := by decide)
    (hall : (backToKw pos (keywordEach kws X.env)).all (·.1.isSome) = true := by rfl) (hks : (backToKw pos (keywordEach kws X.env)).filterMap (·.1) = ks := by rfl)
    (hpl : ((backTo pos (starEach [] X.env)).any (·.1) || (backToKw pos (keywordEach kws X.env)).any (·.1.isNone)) = false := by rfl) : PE X (.Call (.Name x p) [] kws pos) (tKw sp gV tk) := by
  obtain ⟨f, fd, g, m, kp, hb, F⟩ := h.ex
  refine ⟨fun pins s σ H Q I h => ?_⟩
  refine wpAny_Call_Name_kw (ld_glob I hg m ?_ hdb)
  refine PySem.W.callWith_KW0 (h₀ := X.base) I.ok.mod.kin kp hall ?_ hpl
  refine thn (hkw.run pos pins s σ H _ I h) fun ws s2 ⟨zs, H2, I2, rz, q2⟩ => ⟨I2.kIn, ?_⟩
  rw [hks]
  show wpAny (model X.prog X.w) X.A (call (.ref f) [] (ks.zip ws)) (EP X pins σ Q) X.xe s2
  have r2 := hb.rel rz
  have hl : (g ws).length = ps.length := by rw [← r2.length]; exact F.len _ _ _ _ q2
  refine wpAny_call (codeAny_mono (F.run X.A X.stack s2 H2 ⟨[], ks.zip ws⟩ (g ws) (gV zs) Q E0 hr I2.env0 (hb.to s2 ws I2.kIn hl) r2 q2) fun r s' hq => ?_)
  cases r with
  | error e => exact pass0 pins σ H2 s2 e s' I2 hq
  | ok fl =>
    cases fl with
    | ret u => exact I2.after hq
    | next => exact False.elim hq
    | brk => exact False.elim hq
    | cont => exact False.elim hq
end
end Dd

/-! Data in the heap -/
namespace Dd
open PySem PySem.Spec PyProof.Rows L2 Dr
/-- every tuple that can be read stays -/
structure Stay (K : PySem.W.Frag) (H H' : Hp) : Prop where
  t : ∀ a xs, SqT K H a xs → SqT K H' a xs
  x : ∀ a xs, XT H a xs → XT H' a xs
/-- no tuple stands at l -/
def NoT (H : Hp) (l : Addr) : Prop := ∀ xs, ¬ Rd H l (.tup xs)
section
variable {K : PySem.W.Frag} {H H' H0 H1 H2 : Hp} {l p : Addr} {o : HO}
theorem Stay.refl : Stay K H H := ⟨fun _ _ h => h, fun _ _ h => h⟩
theorem Stay.trans (a : Stay K H H1) (b : Stay K H1 H2) : Stay K H H2 := ⟨fun c xs h => b.t c xs (a.t c xs h), fun c xs h => b.x c xs (a.x c xs h)⟩
theorem stay_upd (n : NoT H l) : Stay K H (upd H l o) := by
  refine ⟨fun a xs h => ?_, fun a xs h => ?_⟩
  rotate_left
  · obtain ⟨u, h, hd⟩ := h
    have : a ≠ l := fun e => n xs (.inr ⟨u, e ▸ h⟩)
    exact ⟨u, (upd_ne this).trans h, hd⟩
  rcases h with (h | ⟨u, h⟩) | h
  · have : a ≠ l := fun e => n xs (.inl (e ▸ h))
    exact .inl (.inl ((upd_ne this).trans h))
  · have : a ≠ l := fun e => n xs (.inr ⟨u, e ▸ h⟩)
    exact .inl (.inr ⟨u, (upd_ne this).trans h⟩)
  · exact .inr h
theorem noT_none (h : H l = none) : NoT H l := fun xs r => by
  rcases r with r | ⟨u, r⟩ <;> (rw [h] at r; cases r)
theorem noT_lst {xs : List V} (h : H l = some (.lst xs)) : NoT H l := fun ys r => by
  rcases r with r | ⟨u, r⟩ <;> (rw [h] at r; cases r)
theorem noT_dK {kvs : List (Key × V)} (h : H l = some (.dK kvs)) : NoT H l := fun ys r => by
  rcases r with r | ⟨u, r⟩ <;> (rw [h] at r; cases r)
theorem noT_ins {C dx : Addr} {fs : List (Str × V)} (h : H l = some (.ins C dx fs)) : NoT H l := fun ys r => by
  rcases r with r | ⟨u, r⟩ <;> (rw [h] at r; cases r)
theorem noT_own {x : Addr} (h : H l = some (.own x)) : NoT H l := fun ys r => by
  rcases r with r | ⟨u, r⟩ <;> (rw [h] at r; cases r)
theorem noT_frz {u : Obj} {kvs : List (Key × V)} (h : H l = some (.frz u (.dK kvs))) : NoT H l := fun ys r => by
  rcases r with r | ⟨u, r⟩
  · rw [h] at r; cases r
  · rw [h] at r; injection r with r; injection r with r1 r2; cases r2
theorem stay_new (h : H p = none) : Stay K H (upd H p o) := stay_upd (noT_none h)
theorem stay_lst {xs : List V} (h : H l = some (.lst xs)) : Stay K H (upd H l o) := stay_upd (noT_lst h)
theorem stay_dK {kvs : List (Key × V)} (h : H l = some (.dK kvs)) : Stay K H (upd H l o) := stay_upd (noT_dK h)
theorem sm_stay (s : Same H H') : Stay K H H' := by
  refine ⟨fun a xs h => ?_, fun a xs h => ?_⟩
  rotate_left
  · obtain ⟨u, h, hd⟩ := h
    exact ⟨u, s _ _ h, hd⟩
  rcases h with (h | ⟨u, h⟩) | h
  · exact .inl (.inl (s _ _ h))
  · exact .inl (.inr ⟨u, s _ _ h⟩)
  · exact .inr h
theorem sm_new (s : Same H0 H) (n : H p = none) : Same H0 (upd H p o) := fun b u e => by
  have e' := s b u e
  rw [upd_ne (ne_of_none e' n)]
  exact e'
theorem sm_put (s : Same H0 H) (n : H0 l = none) : Same H0 (upd H l o) := fun b u e => by
  rw [upd_ne (ne_of_none e n)]
  exact s b u e
theorem sm_keep (s : Same H H') {u : HO} (h : H l = some u) : H' l = some u := s l u h
end
/-! ### tuples of ints, of such, of such -/
def T1 (K : PySem.W.Frag) (H : Hp) (v : V) (ns : List Int) : Prop := ∃ a, v = .ref a ∧ SqT K H a (ns.map V.int)
def T2 (K : PySem.W.Frag) (H : Hp) (v : V) (xs : List (List Int)) : Prop := ∃ a vs, v = .ref a ∧ SqT K H a vs ∧ Paired (T1 K H) vs xs
def T3 (K : PySem.W.Frag) (H : Hp) (v : V) (xs : List (List (List Int))) : Prop := ∃ a vs, v = .ref a ∧ SqT K H a vs ∧ Paired (T2 K H) vs xs
/-- a tuple of ints whose methods may be called; a tuple of such -/
def X1 (H : Hp) (v : V) (ns : List Int) : Prop := ∃ a, v = .ref a ∧ XT H a (ns.map V.int)
def X2 (K : PySem.W.Frag) (H : Hp) (v : V) (xs : List (List Int)) : Prop := ∃ a vs, v = .ref a ∧ SqT K H a vs ∧ Paired (X1 H) vs xs
/-- two ints -/
def T11 (K : PySem.W.Frag) (H : Hp) (v : V) (p : Int × Int) : Prop := ∃ a, v = .ref a ∧ SqT K H a [.int p.1, .int p.2]
section
variable {α β : Type} {R S : α → β → Prop}
theorem pr_mono : ∀ {as : List α} {bs : List β}, Paired R as bs → (∀ a b, R a b → S a b) → Paired S as bs
  | _, _, .nil, _ => .nil
  | _, _, .cons r t, f => .cons (f _ _ r) (pr_mono t f)
theorem pr_len {as : List α} {bs : List β} (h : Paired R as bs) : as.length = bs.length := Paired.length h
theorem pr_get : ∀ {as : List α} {bs : List β} {i : Nat} {a : α}, Paired R as bs → as[i]? = some a → ∃ b, bs[i]? = some b ∧ R a b
  | _, _, _, _, .nil, e => by simp at e
  | _, _, 0, _, .cons r _, e => by simp at e; subst e; exact ⟨_, rfl, r⟩
  | _, _, i + 1, x, .cons _ t, e => by
    obtain ⟨u, h1, h2⟩ := pr_get (i := i) (a := x) t (by simpa using e)
    exact ⟨u, by simpa using h1, h2⟩
theorem pr_get' : ∀ {as : List α} {bs : List β} {i : Nat} {b : β}, Paired R as bs → bs[i]? = some b → ∃ a, as[i]? = some a ∧ R a b
  | _, _, _, _, .nil, e => by simp at e
  | _, _, 0, _, .cons r _, e => by simp at e; subst e; exact ⟨_, rfl, r⟩
  | _, _, i + 1, x, .cons _ t, e => by
    obtain ⟨u, h1, h2⟩ := pr_get' (i := i) (b := x) t (by simpa using e)
    exact ⟨u, by simpa using h1, h2⟩
theorem pr_app : ∀ {as as' : List α} {bs bs' : List β}, Paired R as bs → Paired R as' bs' → Paired R (as ++ as') (bs ++ bs')
  | _, _, _, _, .nil, s => s
  | _, _, _, _, .cons r t, s => .cons r (pr_app t s)
theorem pr_snoc {as : List α} {bs : List β} {a : α} {b : β} (h : Paired R as bs) (r : R a b) : Paired R (as ++ [a]) (bs ++ [b]) := pr_app h (.cons r .nil)
theorem pr_rev : ∀ {as : List α} {bs : List β}, Paired R as bs → Paired R as.reverse bs.reverse
  | _, _, .nil => .nil
  | _, _, .cons r t => by
    rw [List.reverse_cons, List.reverse_cons]
    exact pr_snoc (pr_rev t) r
end
section
variable {K : PySem.W.Frag} {H H' : Hp} {v : V}
theorem T1.mono {ns : List Int} (s : Stay K H H') (h : T1 K H v ns) : T1 K H' v ns := by
  obtain ⟨a, e, q⟩ := h
  exact ⟨a, e, s.t _ _ q⟩
theorem T11.mono {p : Int × Int} (s : Stay K H H') (h : T11 K H v p) : T11 K H' v p := by
  obtain ⟨a, e, q⟩ := h
  exact ⟨a, e, s.t _ _ q⟩
theorem T2.mono {xs : List (List Int)} (s : Stay K H H') (h : T2 K H v xs) : T2 K H' v xs := by
  obtain ⟨a, vs, e, q, r⟩ := h
  exact ⟨a, vs, e, s.t _ _ q, pr_mono r fun _ _ z => z.mono s⟩
theorem T3.mono {xs : List (List (List Int))} (s : Stay K H H') (h : T3 K H v xs) : T3 K H' v xs := by
  obtain ⟨a, vs, e, q, r⟩ := h
  exact ⟨a, vs, e, s.t _ _ q, pr_mono r fun _ _ z => z.mono s⟩
theorem X1.mono {ns : List Int} (s : Stay K H H') (h : X1 H v ns) : X1 H' v ns := by
  obtain ⟨a, e, q⟩ := h
  exact ⟨a, e, s.x _ _ q⟩
theorem X2.mono {xs : List (List Int)} (s : Stay K H H') (h : X2 K H v xs) : X2 K H' v xs := by
  obtain ⟨a, vs, e, q, r⟩ := h
  exact ⟨a, vs, e, s.t _ _ q, pr_mono r fun _ _ z => z.mono s⟩
theorem X1.t1 {ns : List Int} (h : X1 H v ns) : T1 K H v ns := by
  obtain ⟨a, e, q⟩ := h
  exact ⟨a, e, q.sqT⟩
theorem X2.t2 {xs : List (List Int)} (h : X2 K H v xs) : T2 K H v xs := by
  obtain ⟨a, vs, e, q, r⟩ := h
  exact ⟨a, vs, e, q, pr_mono r fun _ _ z => z.t1⟩
theorem prT1_mono {vs : List V} {xs : List (List Int)} (s : Stay K H H') (h : Paired (T1 K H) vs xs) : Paired (T1 K H') vs xs := pr_mono h fun _ _ z => z.mono s
theorem prT2_mono {vs : List V} {xs : List (List (List Int))} (s : Stay K H H') (h : Paired (T2 K H) vs xs) : Paired (T2 K H') vs xs := pr_mono h fun _ _ z => z.mono s
theorem prT11_mono {vs : List V} {xs : List (Int × Int)} (s : Stay K H H') (h : Paired (T11 K H) vs xs) : Paired (T11 K H') vs xs := pr_mono h fun _ _ z => z.mono s
theorem T1.new {p : Addr} {ns : List Int} : T1 K (upd H p (.tup (ns.map V.int))) (.ref p) ns := ⟨p, rfl, SqT.of upd_same⟩
/-- the i-th of a list of ints -/
theorem int_get {ns : List Int} {i : Nat} {v : V} (h : (ns.map V.int)[i]? = some v) : ∃ n, ns[i]? = some n ∧ v = .int n := by
  rw [List.getElem?_map] at h
  cases e : ns[i]? with
  | none => rw [e] at h; cases h
  | some n => rw [e] at h; exact ⟨n, rfl, (Option.some.inj h).symm⟩
theorem int_at {ns : List Int} {i : Nat} {n : Int} (h : ns[i]? = some n) : (ns.map V.int)[i]? = some (.int n) := by
  rw [List.getElem?_map, h]; rfl
theorem int_inj : ∀ {a b : List Int}, a.map V.int = b.map V.int → a = b
  | [], [], _ => rfl
  | [], _ :: _, h => by cases h
  | _ :: _, [], h => by cases h
  | x :: a, y :: b, h => by
    injection h with h1 h2
    injection h1 with h3
    rw [h3, int_inj h2]
/-! ### as data, for == -/
def d1 (ns : List Int) : PyData := .tuple (ns.map .int)
def d2 (xs : List (List Int)) : PyData := .tuple (xs.map d1)
theorem dp_ints : ∀ ns : List Int, DpAll K H (ns.map V.int) (ns.map PyData.int)
  | [] => .nil
  | n :: ns => .cons (.int n) (dp_ints ns)
theorem T1.dp {ns : List Int} (h : T1 K H v ns) : Dp K H v (d1 ns) := by
  obtain ⟨a, rfl, q⟩ := h
  exact .tup q (dp_ints ns)
theorem T2.dp {xs : List (List Int)} (h : T2 K H v xs) : Dp K H v (d2 xs) := by
  obtain ⟨a, vs, rfl, q, r⟩ := h
  refine .tup q ?_
  clear q
  induction r with
  | nil => exact .nil
  | cons r _ ih => exact .cons r.dp ih
end
/-! ### rules with the written part told (within a comprehension) -/
section
variable {X : Cx}
theorem ixT (K : PySem.W.Frag) (h : X.K = K) : IxR X (rIxT K) := h ▸ ix_tup
theorem ixL (K : PySem.W.Frag) (h : X.K = K) : IxR X (rIxL K) := h ▸ ix_list
theorem crMin (K : PySem.W.Frag) (h : X.K = K) (hc : X.calm = true) : CallR X (.builtin "min") (rMin K) := h ▸ cr_min hc
theorem crSorted (K : PySem.W.Frag) (h : X.K = K) : CallR X (.builtin "sorted") (rSorted K) := h ▸ cr_sorted
def rTupOf (K : PySem.W.Frag) : List V → Hp → VK → Prop := fun xs H Q => ∃ p ys, xs = [.ref p] ∧ ((SqL K H p ys ∧ ∀ l, H l = none → Q (.ref l) (upd H l (.tup ys))) ∨ (SqT K H p ys ∧ Q (.ref p) H))
theorem crTup (K : PySem.W.Frag) (h : X.K = K) : CallR X (.type "tuple") (rTupOf K) := by subst h; exact call_tuple_of
theorem opIn (K : PySem.W.Frag) (h : X.K = K) : OpR X (compareOp .In) (rIn K false) := h ▸ op_in_seq
theorem opNotIn (K : PySem.W.Frag) (h : X.K = K) : OpR X (compareOp .NotIn) (rIn K true) := h ▸ op_notIn_seq
def rLenSq (K : PySem.W.Frag) : List V → Hp → VK → Prop := fun xs H Q => ∃ p ys, xs = [.ref p] ∧ (SqL K H p ys ∨ SqT K H p ys) ∧ Q (.int ys.length) H
theorem crLen (K : PySem.W.Frag) (h : X.K = K) : CallR X (.builtin "len") (rLenSq K) := by subst h; exact call_len_seq
theorem piTup (K : PySem.W.Frag) (h : X.K = K) {tg e : Expr} {t : TE} (he : PE X e t) : PI X tg e (iTup K t) := by subst h; exact pi_tup he
theorem piList (K : PySem.W.Frag) (h : X.K = K) {tg e : Expr} {t : TE} (he : PE X e t) : PI X tg e (iList K t) := by subst h; exact pi_list he
theorem slT (K : PySem.W.Frag) (h : X.K = K) : SlR X (rSlA K) := h ▸ sl_tupA
theorem slL (K : PySem.W.Frag) (h : X.K = K) : SlR X (rSlL K) := h ▸ sl_list
end
theorem lcY {σ : L2.St} {H : Hp} {A B : Hp → Prop} (h : A H) : tYes σ H fun b H3 => if b = true then A H3 else B H3 := by
  show (if true = true then A H else B H)
  rw [if_pos rfl]
  exact h
theorem upd_at {H : Hp} {l : Addr} {o o' : HO} (h : H l = some o) {p : Addr} (n : H p = none) : upd H p o' l = some o := (upd_ne (ne_of_none h n)).trans h
end Dd

/-! What the top leaves; shares -/
namespace Dd
open PySem PySem.Spec PyProof.Rows L2 Dr Dh
structure Txt (K : PySem.W.Frag) (mg : Str → Option Value) : Prop where
  len : mg "len" = none
  sum : mg "sum" = none
  sorted : mg "sorted" = none
  tuple : mg "tuple" = none
  set : mg "set" = none
  range : mg "range" = none
  enumerate : mg "enumerate" = none
  zip : mg "zip" = none
  min : mg "min" = none
  max : mg "max" = none
  int : mg "int" = none
  list : mg "list" = none
  isinstance : mg "isinstance" = none
  all : mg "all" = none
  any : mg "any" = none
  bool : mg "bool" = none
  dict : mg "dict" = none
  gcd : mg "gcd" = some (.builtin "math.gcd")
  comb : mg "comb" = some (.builtin "math.comb")
  fac : mg "factorial" = some (.builtin "math.factorial")
  lg : ∃ t, mg "LEAST_GROUP" = some (.int 2 t)
  ml : ∃ t, mg "MOST_LEAVES" = some (.int 12 t)
  md : ∃ t, mg "MOST_DAYS" = some (.int 11 t)
  one : ∃ a, mg "ONE" = some (.ref a) ∧ ∀ H, SqT K H a [.int 1, .int 1]
theorem b_len : bootBuiltins "len" = some (.builtin "len") := by decide +kernel
theorem b_sum : bootBuiltins "sum" = some (.builtin "sum") := by decide +kernel
theorem b_sorted : bootBuiltins "sorted" = some (.builtin "sorted") := by decide +kernel
theorem b_tuple : bootBuiltins "tuple" = some (.type "tuple") := by decide +kernel
theorem b_set : bootBuiltins "set" = some (.type "set") := by decide +kernel
theorem b_min : bootBuiltins "min" = some (.builtin "min") := by decide +kernel
theorem b_max : bootBuiltins "max" = some (.builtin "max") := by decide +kernel
theorem b_int : bootBuiltins "int" = some (.type "int") := by decide +kernel
theorem b_list : bootBuiltins "list" = some (.type "list") := by decide +kernel
theorem b_isinstance : bootBuiltins "isinstance" = some (.builtin "isinstance") := by decide +kernel
theorem b_all : bootBuiltins "all" = some (.builtin "all") := by decide +kernel
theorem b_any : bootBuiltins "any" = some (.builtin "any") := by decide +kernel
theorem b_bool : bootBuiltins "bool" = some (.type "bool") := by decide +kernel
theorem b_dict : bootBuiltins "dict" = some (.type "dict") := by decide +kernel
theorem kit_int_int (K : PySem.W.Frag) : PySem.W.kitOne K (.type "int") (.type "int") = some true := by kernel_rfl
theorem kit_int_bool (K : PySem.W.Frag) : PySem.W.kitOne K (.type "int") (.type "bool") = some false := by kernel_rfl
theorem kit_tup_tup (K : PySem.W.Frag) : PySem.W.kitOne K (.type "tuple") (.type "tuple") = some true := by kernel_rfl
section
variable {P : Program} {w : World} {K : PySem.W.Frag} {mg : Str → Option Value} {base : Heap}
/-! ### is_number -/
def spNum : Sp := fun vs H Q _ => ∃ i : Int, vs = [.int i] ∧ Q (.bl true) H
theorem ok_is_number (T : Txt K mg) (G : Giv K mg d_is_number) : Has P w K mg base "is_number" 1 ["thing"] spNum := by
  refine has_mk (d := d_is_number) (N := ["thing"]) G ⟨rfl, rfl, rfl, by decide +kernel, rfl, by decide +kernel, by decide +kernel⟩ (fun _ _ _ _ _ _ us hl => match us, hl with | [_], _ => rfl) (fun vs H Q E h => by obtain ⟨i, rfl, _⟩ := h; rfl) (fun f cdv A outer s H vs Q E hr h => ?_)
  obtain ⟨i, rfl, q⟩ := h
  refine ⟨_, pss_one (ps_ret (pe_and (pe_callB call_isi (by rfl) T.isinstance b_isinstance (pa_cons (pv 0) (pa_cons (pe_bltn (v := .ty "int") (by rfl) T.int b_int rfl) pa_nil)))
    (pe_one (pe_not (pe_callB call_isi (by rfl) T.isinstance b_isinstance (pa_cons (pv 0) (pa_cons (pe_bltn (v := .ty "bool") (by rfl) T.bool b_bool rfl) pa_nil))))))), ?_⟩
  refine ⟨_, rfl, _, _, _, _, true, rfl, .ty "int", .base (.int i), kit_int_int K, true, rfl, iteT ?_⟩
  exact ⟨_, rfl, _, _, _, _, false, rfl, .ty "bool", .base (.int i), kit_int_bool K, false, rfl, q⟩
/-! ### made_share and what leans on it -/
/-- n / d in lowest terms -/
def mks (n d : Int) : Int × Int := (n / (Nat.gcd n.natAbs d.natAbs : Nat), d / (Nat.gcd n.natAbs d.natAbs : Nat))
theorem mks_pos {n d : Int} (h : 0 < d) : 0 < (mks n d).2 := by
  unfold mks
  have h1 : Nat.gcd n.natAbs d.natAbs ∣ d.natAbs := Nat.gcd_dvd_right _ _
  have h0 : 0 < Nat.gcd n.natAbs d.natAbs := Nat.gcd_pos_of_pos_right _ (by omega)
  have h2 := Nat.le_of_dvd (by omega) h1
  have e : d = (d.natAbs : Int) := by omega
  show 0 < d / (Nat.gcd n.natAbs d.natAbs : Nat)
  rw [e]
  exact Int.ediv_pos_of_pos_of_dvd (by omega) (by omega) (by rw [Int.natAbs_natCast]; exact Int.natCast_dvd_natCast.mpr h1)
theorem ediv_abs (n : Int) (g : Nat) : (n / (g : Int)).natAbs ≤ n.natAbs := by
  exact Int.natAbs_ediv_le_natAbs n g
theorem mks_bd {n d : Int} {b : Nat} (h1 : n.natAbs < 2 ^ b) (h2 : d.natAbs < 2 ^ b) : (mks n d).1.natAbs < 2 ^ b ∧ (mks n d).2.natAbs < 2 ^ b :=
  ⟨Nat.lt_of_le_of_lt (ediv_abs _ _) h1, Nat.lt_of_le_of_lt (ediv_abs _ _) h2⟩
def spMks (K : PySem.W.Frag) : Sp := fun vs H Q _ => ∃ (n d : Int), vs = [.int n, .int d] ∧ 0 < d ∧ d.natAbs < 2 ^ 8000 ∧ ∀ p H', Same H H' → SqT K H' p [.int (mks n d).1, .int (mks n d).2] → Q (.ref p) H'
theorem ok_made_share (T : Txt K mg) (G : Giv K mg d_made_share) : Has P w K mg base "made_share" 1 ["n", "d"] (spMks K) := by
  refine has_mk (d := d_made_share) (N := ["n", "d", "common"]) G ⟨rfl, rfl, rfl, by decide +kernel, rfl, by decide +kernel, by decide +kernel⟩ (fun _ _ _ _ _ _ us hl => match us, hl with | [_, _], _ => rfl) (fun vs H Q E h => by obtain ⟨i, j, rfl, _⟩ := h; rfl) (fun f cdv A outer s H vs Q E hr h => ?_)
  obtain ⟨n, d, rfl, h0, hb, q⟩ := h
  have nd : (["n", "d", "common"] : List Str).Nodup := by decide +kernel
  refine ⟨_, pss_cons (ps_set (i := 2) nd rfl (Or.inl rfl) (pe_ifExp (pt_cmpR op_gt (pv 1) pe_int (nomark _)) (pe_callBfun cr_gcd (by rfl) T.gcd (pa_cons (pv 0) (pa_cons (pv 1) pa_nil))) (pe_un un_neg (pe_callBfun cr_gcd (by rfl) T.gcd (pa_cons (pv 0) (pa_cons (pv 1) pa_nil))))))
    (pss_one (ps_ret (pe_tup (pa_cons (pe_op op_fdivW (pv 0) (pv 2)) (pa_cons (pe_op op_fdivW (pv 1) (pv 2)) pa_nil))))), ?_⟩
  have hg0 : 0 < Nat.gcd n.natAbs d.natAbs := Nat.gcd_pos_of_pos_right _ (by omega)
  have hgd : Nat.gcd n.natAbs d.natAbs ≤ d.natAbs := Nat.le_of_dvd (by omega) (Nat.gcd_dvd_right _ _)
  have hd : CDivW n ((Nat.gcd n.natAbs d.natAbs : Nat) : Int) := wide_div (b := 8000) (by omega) (by rw [Int.natAbs_natCast]; exact Nat.lt_of_le_of_lt hgd hb) (by decide) (by decide)
  refine ⟨_, rfl, _, _, rfl, rfl, _, rfl, ?_⟩
  rw [decide_eq_true h0]
  refine iteT ?_
  refine ⟨_, rfl, _, rfl, _, _, rfl, ?_⟩
  refine ⟨_, rfl, _, rfl, _, _, rfl, rfl, hd, _, rfl, _, rfl, _, _, rfl, rfl, hd, by show 2 ≤ sizeLine; decide, fun p hp => ?_⟩
  exact q p _ (sm_new (Same.refl H) hp) (SqT.of upd_same)
def spShare (K : PySem.W.Frag) : Sp := spMks K
theorem ok_share (T : Txt K mg) (G : Giv K mg d_share) (hm : Has P w K mg base "made_share" 1 ["n", "d"] (spMks K)) : Has P w K mg base "share" 2 ["n", "d"] (spMks K) := by
  refine has_mk (d := d_share) (N := ["n", "d"]) G ⟨rfl, rfl, rfl, by decide +kernel, rfl, by decide +kernel, by decide +kernel⟩ (fun _ _ _ _ _ _ us hl => match us, hl with | [_, _], _ => rfl) (fun vs H Q E h => by obtain ⟨i, j, rfl, _⟩ := h; rfl) (fun f cdv A outer s H vs Q E hr h => ?_)
  obtain ⟨n, d, rfl, h0, hb, q⟩ := h
  refine ⟨_, pss_cons (ps_if (pt_cmpR op_eq (pv 1) pe_int (nomark _)) (pss_one ps_never) pss_nil) (pss_one (ps_ret (pe_has hm hr (pa_cons (pv 0) (pa_cons (pv 1) pa_nil))))), ?_⟩
  refine ⟨_, rfl, rfl, _, rfl, ?_⟩
  have ne : decide (V.int d = V.int 0) = false := decide_eq_false fun e => by injection e with e; omega
  rw [ne]
  exact iteF ⟨_, rfl, _, rfl, n, d, rfl, h0, hb, q⟩
/-- shares, their parts below 2 ^ b, the lower one above 0 -/
structure Shr (b : Nat) (p : Int × Int) : Prop where
  pos : 0 < p.2
  b1 : p.1.natAbs < 2 ^ b
  b2 : p.2.natAbs < 2 ^ b
theorem Shr.mono {b c : Nat} {p : Int × Int} (h : Shr b p) (hc : b ≤ c) : Shr c p := ⟨h.pos, Nat.lt_of_lt_of_le h.b1 (Nat.pow_le_pow_right (by decide) hc), Nat.lt_of_lt_of_le h.b2 (Nat.pow_le_pow_right (by decide) hc)⟩
def tms (p q : Int × Int) : Int × Int := mks (p.1 * q.1) (p.2 * q.2)
def mns (p q : Int × Int) : Int × Int := mks (p.1 * q.2 - q.1 * p.2) (p.2 * q.2)
theorem tms_shr {b c : Nat} {p q : Int × Int} (h : Shr b p) (k : Shr c q) : Shr (b + c) (tms p q) := by
  have h1 := wide_lt h.b1 k.b1
  have h2 := wide_lt h.b2 k.b2
  have := mks_bd h1 h2
  exact ⟨mks_pos (Int.mul_pos h.pos k.pos), this.1, this.2⟩
theorem mns_shr {b c : Nat} {p q : Int × Int} (h : Shr b p) (k : Shr c q) : Shr (b + c + 1) (mns p q) := by
  have h1 := wide_lt h.b1 k.b2
  have h2 := wide_lt h.b2 k.b2
  have h3 := wide_lt k.b1 h.b2
  have e : 2 ^ (b + c + 1) = 2 ^ (b + c) + 2 ^ (b + c) := by rw [Nat.pow_succ]; omega
  have e2 : 2 ^ (c + b) = 2 ^ (b + c) := by rw [Nat.add_comm]
  have h4 : (p.1 * q.2 - q.1 * p.2).natAbs < 2 ^ (b + c + 1) := by
    rw [e]
    rw [e2] at h3
    omega
  have := mks_bd h4 (Nat.lt_of_lt_of_le h2 (by rw [e]; omega))
  exact ⟨mks_pos (Int.mul_pos h.pos k.pos), this.1, this.2⟩
def spTms (K : PySem.W.Frag) (op : Int × Int → Int × Int → Int × Int) : Sp := fun vs H Q _ => ∃ (u v : V) (p q : Int × Int) (b c : Nat), vs = [u, v] ∧ T11 K H u p ∧ T11 K H v q ∧ Shr b p ∧ Shr c q ∧ 0 < b ∧ 0 < c ∧ b ≤ 1000 ∧ c ≤ 1000 ∧
  ∀ z H', Same H H' → T11 K H' z (op p q) → Q z H'
theorem ok_times (T : Txt K mg) (G : Giv K mg d_times) (hm : Has P w K mg base "made_share" 1 ["n", "d"] (spMks K)) : Has P w K mg base "times" 2 ["one", "two"] (spTms K tms) := by
  refine has_mk (d := d_times) (N := ["one", "two"]) G ⟨rfl, rfl, rfl, by decide +kernel, rfl, by decide +kernel, by decide +kernel⟩ (fun _ _ _ _ _ _ us hl => match us, hl with | [_, _], _ => rfl) (fun vs H Q E h => by obtain ⟨u, v, p, q, b, c, rfl, _⟩ := h; rfl) (fun f cdv A outer s H vs Q E hr h => ?_)
  obtain ⟨u, v, p, q, b, c, rfl, ⟨a1, rfl, t1⟩, ⟨a2, rfl, t2⟩, s1, s2, hb, hc, hb1, hc1, k⟩ := h
  refine ⟨_, pss_one (ps_ret (pe_has hm hr (pa_cons (pe_op op_mulW (pe_ix ix_tup (pv 0) pe_int (fun _ _ => rfl)) (pe_ix ix_tup (pv 1) pe_int (fun _ _ => rfl)))
    (pa_cons (pe_op op_mulW (pe_ix ix_tup (pv 0) pe_int (fun _ _ => rfl)) (pe_ix ix_tup (pv 1) pe_int (fun _ _ => rfl))) pa_nil)))), ?_⟩
  refine ⟨_, rfl, a1, _, 0, .int p.1, rfl, rfl, t1, rfl, _, rfl, a2, _, 0, .int q.1, rfl, rfl, t2, rfl, _, _, rfl, rfl, wide_mul s1.b1 s2.b1 hb hc (by omega), ?_⟩
  refine ⟨_, rfl, a1, _, 1, .int p.2, rfl, rfl, t1, rfl, _, rfl, a2, _, 1, .int q.2, rfl, rfl, t2, rfl, _, _, rfl, rfl, wide_mul s1.b2 s2.b2 hb hc (by omega), ?_⟩
  refine ⟨_, _, rfl, Int.mul_pos s1.pos s2.pos, Nat.lt_of_lt_of_le (wide_lt s1.b2 s2.b2) (Nat.pow_le_pow_right (by decide) (by omega)), fun z H' sm tt => k _ H' sm ⟨z, rfl, tt⟩⟩
theorem ok_minus (T : Txt K mg) (G : Giv K mg d_minus) (hm : Has P w K mg base "made_share" 1 ["n", "d"] (spMks K)) : Has P w K mg base "minus" 2 ["one", "two"] (spTms K mns) := by
  refine has_mk (d := d_minus) (N := ["one", "two"]) G ⟨rfl, rfl, rfl, by decide +kernel, rfl, by decide +kernel, by decide +kernel⟩ (fun _ _ _ _ _ _ us hl => match us, hl with | [_, _], _ => rfl) (fun vs H Q E h => by obtain ⟨u, v, p, q, b, c, rfl, _⟩ := h; rfl) (fun f cdv A outer s H vs Q E hr h => ?_)
  obtain ⟨u, v, p, q, b, c, rfl, ⟨a1, rfl, t1⟩, ⟨a2, rfl, t2⟩, s1, s2, hb, hc, hb1, hc1, k⟩ := h
  refine ⟨_, pss_one (ps_ret (pe_has hm hr (pa_cons (pe_op op_sub (pe_op op_mulW (pe_ix ix_tup (pv 0) pe_int (fun _ _ => rfl)) (pe_ix ix_tup (pv 1) pe_int (fun _ _ => rfl))) (pe_op op_mulW (pe_ix ix_tup (pv 1) pe_int (fun _ _ => rfl)) (pe_ix ix_tup (pv 0) pe_int (fun _ _ => rfl))))
    (pa_cons (pe_op op_mulW (pe_ix ix_tup (pv 0) pe_int (fun _ _ => rfl)) (pe_ix ix_tup (pv 1) pe_int (fun _ _ => rfl))) pa_nil)))), ?_⟩
  refine ⟨_, rfl, a1, _, 0, .int p.1, rfl, rfl, t1, rfl, _, rfl, a2, _, 1, .int q.2, rfl, rfl, t2, rfl, _, _, rfl, rfl, wide_mul s1.b1 s2.b2 hb hc (by omega), ?_⟩
  refine ⟨_, rfl, a2, _, 0, .int q.1, rfl, rfl, t2, rfl, _, rfl, a1, _, 1, .int p.2, rfl, rfl, t1, rfl, _, _, rfl, rfl, wide_mul s2.b1 s1.b2 hc hb (by omega), _, _, rfl, rfl, ?_⟩
  refine ⟨_, rfl, a1, _, 1, .int p.2, rfl, rfl, t1, rfl, _, rfl, a2, _, 1, .int q.2, rfl, rfl, t2, rfl, _, _, rfl, rfl, wide_mul s1.b2 s2.b2 hb hc (by omega), ?_⟩
  refine ⟨_, _, rfl, Int.mul_pos s1.pos s2.pos, Nat.lt_of_lt_of_le (wide_lt s1.b2 s2.b2) (Nat.pow_le_pow_right (by decide) (by omega)), fun z H' sm tt => k _ H' sm ⟨z, rfl, tt⟩⟩
end
end Dd

/-! Patterns -/
namespace Dd
open PySem PySem.Spec PyProof.Rows L2 Dr Dh
theorem rep_snoc (i : Nat) : (List.replicate i true).map V.bl ++ [V.bl true] = (List.replicate (i + 1) true).map V.bl := by
  rw [List.replicate_succ', List.map_append]; rfl
theorem rep_all (i : Nat) : (List.replicate i true).all id = true := by
  rw [List.all_eq_true]
  intro x hx
  exact (List.mem_replicate.mp hx).2
theorem lt_line {n : Nat} (h : n ≤ 1000) : n < sizeLine := small1000 h
theorem le_line {n : Nat} (h : n ≤ 1000) : n ≤ sizeLine := Nat.le_of_lt (small1000 h)
theorem rg2 {i j : Int} (h1 : 0 ≤ i ∧ i ≤ 1000) (h2 : 0 ≤ j ∧ j ≤ 1000) : -(2 ^ 62) ≤ i ∧ i < 2 ^ 62 ∧ -(2 ^ 62) ≤ j ∧ j < 2 ^ 62 := by omega
section
variable {P : Program} {w : World} {K : PySem.W.Frag} {mg : Str → Option Value} {base : Heap}
def spPat (K : PySem.W.Frag) : Sp := fun vs H Q _ => ∃ (v : V) (ns : List Int), vs = [v] ∧ T1 K H v ns ∧ (∀ s ∈ ns, 2 ≤ s) ∧ ns.Pairwise (· ≥ ·) ∧ ns.length ≤ 100 ∧ ∀ H', Same H H' → Q (.bl true) H'
theorem tyT (K : PySem.W.Frag) {H : Hp} {a : Addr} {xs : List V} (h : SqT K H a xs) : TyX K H (.ref a) (.type "tuple") := by
  rcases h with (h | ⟨u, h⟩) | ⟨o, its, n, hk, hc, _⟩
  · exact .base (.tup h)
  · exact .fTuple h
  · exact .kTuple hk hc
theorem ok_is_pattern (T : Txt K mg) (G : Giv K mg d_is_pattern) (hn : Has P w K mg base "is_number" 1 ["thing"] spNum) : Has P w K mg base "is_pattern" 2 ["thing"] (spPat K) := by
  refine has_mk (d := d_is_pattern) (N := ["thing", "size", "at"]) G ⟨rfl, rfl, rfl, by decide +kernel, rfl, by decide +kernel, by decide +kernel⟩ (fun _ _ _ _ _ _ us hl => match us, hl with | [_], _ => rfl) (fun vs H Q E h => by obtain ⟨i, j, rfl, _⟩ := h; rfl) (fun f cdv A outer s H vs Q E hr h => ?_)
  obtain ⟨v, ns, rfl, ⟨a, rfl, ht⟩, h2, hs, hl, k⟩ := h
  have nd : (["thing", "size", "at"] : List Str).Nodup := by decide +kernel
  obtain ⟨t2, mlg⟩ := T.lg
  refine ⟨_, pss_cons (ps_if (PW.pt (pw_or (pt_not (pt_val (pe_callB call_isi (by rfl) T.isinstance b_isinstance (pa_cons (pv 0) (pa_cons (pe_bltn (v := .ty "tuple") (by rfl) T.tuple b_tuple rfl) pa_nil)))))
      (pw_or1 (pt_not (pt_val (pe_callB (cr_all rfl) (by rfl) T.all b_all (pa_cons (pe_lc (own := [("size", 1)]) (g := gName 1) (tt := tYes) rfl nd (pi_tup (pv 0)) (blkOk_by (N := ["thing", "size", "at"]) (sc := d_is_pattern.scope) (by decide +kernel))
        (fun _ _ _ _ _ => pg_name (i := 1) nd rfl (Or.inl rfl)) (fun _ _ _ _ _ => pts_nil)
        (fun _ _ _ _ _ => pe_and (pe_has hn hr (pa_cons (pv 1) pa_nil)) (pe_one (pe_cmpR op_ge (pv 1) (pe_glob (v := .int 2) (by rfl) mlg ⟨_, rfl⟩) (nomark _))))) pa_nil)))))))
      (pss_one (ps_ret pe_bl)) pss_nil)
    (pss_one (ps_ret (pe_callB (cr_all rfl) (by rfl) T.all b_all (pa_cons (pe_lc (own := [("at", 2)]) (g := gName 2) (tt := tYes) rfl nd
        (pi_range2 (by rfl) T.range (pa_cons pe_int (pa_cons (pe_callB call_len_seq (by rfl) T.len b_len (pa_cons (pv 0) pa_nil)) pa_nil))) (blkOk_by (N := ["thing", "size", "at"]) (sc := d_is_pattern.scope) (by decide +kernel))
        (fun _ _ _ _ _ => pg_name (i := 2) nd rfl (Or.inl rfl)) (fun _ _ _ _ _ => pts_nil)
        (fun _ _ _ _ _ => pe_cmpR op_ge (pe_ix (ixT K rfl) (pv 0) (pe_op op_sub (pv 2) pe_int) (fun _ _ => rfl)) (pe_ix (ixT K rfl) (pv 0) (pv 2) (fun _ _ => rfl)) (nomark _))) pa_nil)))), ?_⟩
  refine ⟨_, rfl, _, _, _, _, true, rfl, .ty "tuple", tyT K ht, kit_tup_tup K, true, rfl, iteF ?_⟩
  refine ⟨_, rfl, a, rfl, ⟨_, ht⟩, fun D hD => lc_tup (K := K) (a := a) (xs := ns.map V.int) (fun i H' => Same H H' ∧ H' D = some (.lst ((List.replicate i true).map V.bl)))
    ⟨sm_new (Same.refl H) hD, upd_same⟩ (fun i H' _ p => (sm_stay p.1).t _ _ ht) ?_ ?_⟩
  · rintro i x H1 hx ⟨s1, e1⟩
    obtain ⟨n, hn, rfl⟩ := int_get hx
    have n2 := h2 n (List.mem_of_getElem? hn)
    have il : i < ns.length := (List.getElem?_eq_some_iff.mp hn).1
    refine ⟨rfl, lcY ?_⟩
    refine ⟨_, rfl, n, rfl, true, rfl, ?_⟩
    refine iteT ?_
    refine ⟨_, rfl, _, _, rfl, rfl, ?_⟩
    dsimp only
    rw [decide_eq_true n2]
    refine ⟨_, e1, lt_line (by simp; omega), sm_put s1 hD, ?_⟩
    rw [rep_snoc]
    exact upd_same
  · rintro H1 ⟨s1, e1⟩
    refine ⟨D, _, rfl, SqL.of e1, true, by rw [rep_all], iteF ?_⟩
    have ht1 := (sm_stay s1 (K := K)).t _ _ ht
    refine ⟨_, rfl, a, _, rfl, .inr ht1, _, _, rfl, rg2 (by omega) (by rw [List.length_map]; omega), fun D2 hD2 => lc_range (lo := 1) (fun i H' => Same H1 H' ∧ H' D2 = some (.lst ((List.replicate i true).map V.bl)))
      ⟨sm_new (Same.refl H1) hD2, upd_same⟩ ?_ ?_⟩
    · rintro i H2 hi ⟨s2, e2⟩
      have hi' : i + 1 < ns.length := by simp at hi; omega
      have ht2 := (sm_stay s2 (K := K)).t _ _ ht1
      have g1 : ns[i]? = some ns[i] := List.getElem?_eq_getElem (by omega)
      have g2 : ns[i + 1]? = some ns[i + 1] := List.getElem?_eq_getElem hi'
      refine ⟨rfl, lcY ?_⟩
      refine ⟨_, rfl, _, rfl, _, _, rfl, rfl, a, _, _, _, rfl, rfl, ht2, at_of (j := i) (by omega) (int_at g1), _, rfl, _, rfl, a, _, _, _, rfl, rfl, ht2, at_of (j := i + 1) (by omega) (int_at g2), _, _, rfl, rfl, ?_⟩
      have ge : ns[i + 1] ≤ ns[i] := (List.pairwise_iff_getElem.mp hs) i (i + 1) (by omega) hi' (by omega)
      dsimp only
      rw [decide_eq_true ge]
      refine ⟨_, e2, lt_line (by simp; omega), sm_put s2 hD2, ?_⟩
      rw [rep_snoc]
      exact upd_same
    · rintro H2 ⟨s2, e2⟩
      refine ⟨D2, _, rfl, SqL.of e2, ?_⟩
      rw [rep_all]
      exact k _ (s1.trans s2)
end
end Dd

/-! How many ways -/
namespace Dd
open PySem PySem.Spec PyProof.Rows L2 Dr Dh
theorem fac_eq (n : Nat) : Builtin.Math.factorialNat n = Dl.facN n := by
  induction n with
  | zero => rfl
  | succ n ih => rw [PySem.W.mc_fac_succ, ih]; rfl
theorem fac_bd : ∀ n < 13, Dl.facN n < 2 ^ 29 := by decide
theorem fac_small {n : Int} (h0 : 0 ≤ n) (h : n ≤ 12) : (Dl.fac n).natAbs < 2 ^ 29 := by
  have := fac_bd n.toNat (by omega)
  unfold Dl.fac
  omega
theorem fac_div {i n : Int} (h0 : 0 ≤ n) (h : n ≤ 12) : CDivW i (Dl.fac n) := wide_div (b := 29) (by have := Dl.fac_pos n; omega) (fac_small h0 h) (by decide) (by decide)
theorem take_snoc {α : Type} {l : List α} {i : Nat} {x : α} (h : l[i]? = some x) : l.take (i + 1) = l.take i ++ [x] := by
  rw [List.take_succ, h]; rfl
theorem foldl_snoc {α β : Type} {f : β → α → β} {b : β} {l : List α} {i : Nat} {x : α} (h : l[i]? = some x) : (l.take (i + 1)).foldl f b = f ((l.take i).foldl f b) x := by
  rw [take_snoc h, List.foldl_append]; rfl
section
variable {P : Program} {w : World} {K : PySem.W.Frag} {mg : Str → Option Value} {base : Heap}
def spWays (K : PySem.W.Frag) : Sp := fun vs H Q _ => ∃ (k : Int) (v : V) (p : List Int), vs = [.int k, v] ∧ X1 H v p ∧ Dl.Pat p ∧ 0 ≤ k ∧ k ≤ 12 ∧ ∀ H', Same H H' → Q (.int (Dl.waysI k p)) H'
theorem size_le {p : List Int} (h : Dl.Pat p) {s : Int} (hs : s ∈ p) : 2 ≤ s ∧ s ≤ 12 := by
  refine ⟨h.two s hs, ?_⟩
  rcases h.cases with rfl | ⟨a, rfl, h2, h3⟩ | ⟨a, b, rfl, h2, h3, h4⟩
  · cases hs
  · have : s = a := by simpa using hs
    omega
  · have : s = a ∨ s = b := by simpa using hs
    omega
theorem ok_ways_of (T : Txt K mg) (G : Giv K mg d_ways_of) : Has P w K mg base "ways_of" 1 ["k", "pattern"] (spWays K) := by
  refine has_mk (d := d_ways_of) (N := ["k", "pattern", "found", "size"]) G ⟨rfl, rfl, rfl, by decide +kernel, rfl, by decide +kernel, by decide +kernel⟩ (fun _ _ _ _ _ _ us hl => match us, hl with | [_, _], _ => rfl) (fun vs H Q E h => by obtain ⟨i, j, p, rfl, _⟩ := h; rfl) (fun f cdv A outer s H vs Q E hr h => ?_)
  obtain ⟨k, v, p, rfl, ⟨a, rfl, ht⟩, hp, h0, h12, q⟩ := h
  have nd : (["k", "pattern", "found", "size"] : List Str).Nodup := by decide +kernel
  refine ⟨_, pss_cons (ps_if (pt_cmpR op_gt (pe_callB (cr_sumT rfl) (by rfl) T.sum b_sum (pa_cons (pv 1) pa_nil)) (pv 0) (nomark _)) (pss_one (ps_ret pe_int)) pss_nil)
    (pss_cons (ps_set (i := 2) nd rfl (Or.inl rfl) (pe_op op_fdivW (pe_callBfun cr_fac (by rfl) T.fac (pa_cons (pv 0) pa_nil)) (pe_callBfun cr_fac (by rfl) T.fac (pa_cons (pe_op op_sub (pv 0) (pe_callB (cr_sumT rfl) (by rfl) T.sum b_sum (pa_cons (pv 1) pa_nil))) pa_nil))))
    (pss_cons (ps_for PassesOwn.never rfl (pi_tup (pv 1)) (pg_name (i := 3) nd rfl (Or.inl rfl))
      (pss_one (ps_set (i := 2) nd rfl (Or.inl rfl) (pe_op op_fdivW (pv 2) (pe_callBfun cr_fac (by rfl) T.fac (pa_cons (pv 3) pa_nil))))))
    (pss_cons (ps_for PassesOwn.never rfl (pi_list (pe_callB (cr_sortedSet rfl) (by rfl) T.sorted b_sorted (pa_cons (pe_callTy (cr_setT rfl) (by rfl) T.set b_set (pa_cons (pv 1) pa_nil)) pa_nil))) (pg_name (i := 3) nd rfl (Or.inl rfl))
      (pss_one (ps_set (i := 2) nd rfl (Or.inl rfl) (pe_op op_fdivW (pv 2) (pe_callBfun cr_fac (by rfl) T.fac (pa_cons (pe_bmX PySem.F.slot_tuple_count PySem.F.type_tuple_count mt_tcount (pv 1) (pa_cons (pv 3) pa_nil)) pa_nil))))))
    (pss_one (ps_ret (pv 2)))))), ?_⟩
  have hT : SqT K H a (p.map V.int) := ht.sqT
  have hps : 0 ≤ p.sum := by have := Dl.pat_sum hp.two; omega
  refine ⟨_, rfl, a, p, rfl, hT, _, rfl, _, _, rfl, rfl, _, rfl, ?_⟩
  refine ite2 (fun c => ?_) (fun c => ?_)
  · have c' : k < p.sum := of_decide_eq_true c
    have e : Dl.waysI k p = 0 := by unfold Dl.waysI; rw [if_pos c']
    have := q H (Same.refl H)
    rw [e] at this
    exact this
  · have c' : ¬ k < p.sum := fun z => c (decide_eq_true z)
    refine ⟨_, rfl, k, rfl, h0, by omega, _, rfl, _, rfl, a, p, rfl, hT, _, _, rfl, rfl, k - p.sum, rfl, by omega, by omega, _, _, rfl, rfl, ?_, ?_⟩
    · rw [fac_eq, fac_eq]
      exact fac_div (n := k - p.sum) (by omega) (by omega)
    rw [fac_eq, fac_eq]
    show tSeq _ _ _ [some (.int k), some (.ref a), some (.int (Dl.fac k / Dl.fac (k - p.sum))), none] H
    refine ⟨_, rfl, a, rfl, ⟨_, hT⟩, for_it (walk_tup (K := K) (a := a) (xs := p.map V.int)) (fun i σ H' => H' = H ∧ ∃ z, σ = [some (.int k), some (.ref a), some (.int ((p.take i).foldl (fun f s => f / Dl.fac s) (Dl.fac k / Dl.fac (k - p.sum)))), z])
      ⟨rfl, none, rfl⟩ (fun i σ H' _ h => by rw [h.1]; exact hT) ?_ ?_⟩
    · rintro i x σ H1 H2 hi ⟨rfl, z, rfl⟩ ⟨rfl, hx⟩
      obtain ⟨n, hn, rfl⟩ := int_get hx
      obtain ⟨n2, n12⟩ := size_le hp (List.mem_of_getElem? hn)
      refine ⟨_, rfl, _, rfl, n, rfl, by omega, by omega, _, _, rfl, rfl, ?_, rfl, some (.int n), ?_⟩
      · rw [fac_eq]; exact fac_div (n := n) (by omega) (by omega)
      · rw [foldl_snoc hn, fac_eq]; rfl
    · rintro σ H1 ⟨rfl, z, rfl⟩
      rw [List.length_map, List.take_length]
      refine ⟨_, rfl, a, p, rfl, hT, by have := hp.len; omega, fun pS c hS hc => ?_⟩
      refine ⟨pS, _, c, rfl, upd_same, by have := hp.len; omega, fun ns pL hs hm hlen hL => ?_⟩
      have en : ns = Dl.dset p := Dl.dset_eq (fun x => by rw [hm x]; simp) hs
      subst en
      have sm2 : Same H1 (upd (upd H1 pS (SetO w pS (fun j => decide (j ∈ p)) c)) pL (.lst ((Dl.dset p).map V.int))) := sm_new (sm_new (Same.refl H1) hS) hL
      refine ⟨pL, rfl, ⟨_, SqL.of upd_same⟩, for_it (walk_list (K := K) (a := pL) (xs := (Dl.dset p).map V.int)) (fun i σ H' => Same H1 H' ∧ SqL K H' pL ((Dl.dset p).map V.int) ∧ ∃ z, σ = [some (.int k), some (.ref a), some (.int (((Dl.dset p).take i).foldl (fun f s => f / Dl.fac (p.count s : Nat)) (p.foldl (fun f s => f / Dl.fac s) (Dl.fac k / Dl.fac (k - p.sum))))), z])
        ⟨sm2, SqL.of upd_same, z, rfl⟩ (fun i σ H' _ h => h.2.1) ?_ ?_⟩
      · rintro i x σ H2 H3 hi ⟨sm3, hl3, z, rfl⟩ ⟨rfl, hx⟩
        obtain ⟨n, hn, rfl⟩ := int_get hx
        have hX := (sm_stay (K := K) sm3).x _ _ ht
        have cb : p.count n ≤ 2 := Nat.le_trans List.count_le_length hp.len
        refine ⟨_, rfl, _, rfl, ⟨a, _, rfl, hX⟩, _, rfl, a, p, n, rfl, rfl, hX.sqT, (p.count n : Nat), rfl, by omega, by omega, _, _, rfl, rfl, ?_, sm3, hl3, some (.int n), ?_⟩
        · rw [fac_eq]; exact fac_div (n := (p.count n : Nat)) (by omega) (by omega)
        · rw [foldl_snoc hn, fac_eq]; rfl
      · rintro σ H2 ⟨sm3, hl3, z, rfl⟩
        rw [List.length_map, List.take_length]
        refine ⟨_, rfl, ?_⟩
        have := q H2 sm3
        unfold Dl.waysI at this
        rw [if_neg c'] at this
        exact this
end
end Dd

/-! without, ended, begun -/
namespace Dd
open PySem PySem.Spec PyProof.Rows L2 Dr Dh
theorem inV_ints (k : Int) : ∀ ns : List Int, inV (V.int k) (ns.map V.int) = decide (k ∈ ns)
  | [] => rfl
  | n :: ns => by
    have ih := inV_ints k ns
    unfold inV at *
    rw [List.map_cons, List.any_cons, ih]
    have e : eqV (V.int n) (V.int k) = decide (n = k) := by
      show (n == k) = decide (n = k)
      by_cases h : n = k <;> simp [h]
    rw [e]
    by_cases h : n = k
    · simp [h]
    · have h' : ¬ k = n := fun q => h q.symm
      simp [h, h']
theorem cmb_eq : ∀ a < 13, ∀ b < 13, PySem.W.mcComb (a : Nat) (b : Nat) = (Dl.cmb a b : Nat) ∧ Dl.cmb a b < 1000 := by decide +kernel
theorem cmb_ok {a b : Int} (h0 : 0 ≤ a) (h1 : a ≤ 12) (h2 : 0 ≤ b) (h3 : b ≤ 12) : PySem.W.mcComb a b = (Dl.cmb a.toNat b.toNat : Nat) ∧ Dl.cmb a.toNat b.toNat < 1000 := by
  have := cmb_eq a.toNat (by omega) b.toNat (by omega)
  have e1 : ((a.toNat : Nat) : Int) = a := by omega
  have e2 : ((b.toNat : Nat) : Int) = b := by omega
  rw [e1, e2] at this
  exact this
theorem erase_at {p : List Int} {l : Int} (h : l ∈ p) : p.erase l = p.take (p.idxOf l) ++ p.drop (p.idxOf l + 1) := by
  rw [List.erase_eq_eraseIdx_of_idxOf rfl, List.eraseIdx_eq_take_drop_succ]
theorem filt_snoc {q : Int → Bool} {l : List Int} {i : Nat} {x : Int} (h : l[i]? = some x) : (l.take (i + 1)).filter q = (l.take i).filter q ++ (if q x = true then [x] else []) := by
  rw [take_snoc h, List.filter_append]
  congr 1
  by_cases h : q x = true <;> simp [h]
section
variable {P : Program} {w : World} {K : PySem.W.Frag} {mg : Str → Option Value} {base : Heap}
def spWithout : Sp := fun vs H Q _ => ∃ (v : V) (p : List Int) (l : Int), vs = [v, .int l] ∧ X1 H v p ∧ p.length ≤ 2 ∧ l ∈ p ∧ ∀ z H', Same H H' → X1 H' z (p.erase l) → Q z H'
theorem ok_without (G : Giv K mg d_without) : Has P w K mg base "without" 1 ["pattern", "length"] spWithout := by
  refine has_mk (d := d_without) (N := ["pattern", "length", "at"]) G ⟨rfl, rfl, rfl, by decide +kernel, rfl, by decide +kernel, by decide +kernel⟩ (fun _ _ _ _ _ _ us hl => match us, hl with | [_, _], _ => rfl) (fun vs H Q E h => by obtain ⟨v, p, l, rfl, _⟩ := h; rfl) (fun f cdv A outer s H vs Q E hr h => ?_)
  obtain ⟨v, p, l, rfl, ⟨a, rfl, ht⟩, hl2, hm, q⟩ := h
  have nd : (["pattern", "length", "at"] : List Str).Nodup := by decide +kernel
  refine ⟨_, pss_cons (ps_set (i := 2) nd rfl (Or.inl rfl) (pe_bmX PySem.F.slot_tuple_index PySem.F.type_tuple_index mt_tindex (pv 0) (pa_cons (pv 1) pa_nil)))
    (pss_one (ps_ret (pe_op op_catA (pe_slice (slX K rfl) (pv 0) po_none (po_some (pv 2))) (pe_slice (slX K rfl) (pv 0) (po_some (pe_op op_add (pv 2) pe_int)) po_none)))), ?_⟩
  have hj : p.idxOf l < p.length := List.idxOf_lt_length_of_mem hm
  generalize ej : p.idxOf l = j at hj
  have er := erase_at hm
  rw [ej] at er
  refine ⟨_, rfl, ⟨a, _, rfl, ht⟩, _, rfl, a, p, l, rfl, rfl, ht.sqT, hm, ?_⟩
  rw [ej]
  have c1 : cutV (p.map V.int) none (some (j : Int)) = (p.take j).map V.int := by
    unfold cutV HT.sIx
    simp only [List.length_map]
    rw [if_neg (by omega)]
    simp only [List.drop_zero, Nat.sub_zero, Int.toNat_natCast]
    rw [Nat.min_eq_left (by omega), List.map_take]
  have c2 : cutV (p.map V.int) (some ((j : Int) + 1)) none = (p.drop (j + 1)).map V.int := by
    unfold cutV HT.sIx
    simp only [List.length_map]
    rw [if_neg (by omega)]
    have e : ((j : Int) + 1).toNat = j + 1 := by omega
    rw [e, Nat.min_eq_left (by omega), ← List.map_drop]
    refine List.take_of_length_le ?_
    simp
  refine ⟨_, rfl, _, rfl, j, rfl, a, _, rfl, ht.sqT, ?_, fun p1 o1 hp1 ho1 => ?_⟩
  · unfold HT.sIx
    simp only [List.length_map]
    rw [if_neg (by omega)]
    omega
  have s1 : Same H (upd H p1 (.frz o1 (.tup (cutV (p.map V.int) none (some (j : Int)))))) := sm_new (Same.refl H) hp1
  have ht1 := (sm_stay (K := K) s1).x _ _ ht
  refine ⟨_, rfl, _, rfl, _, _, rfl, rfl, _, rfl, a, _, rfl, ht1.sqT, ?_, fun p2 o2 hp2 ho2 => ?_⟩
  · unfold HT.sIx
    simp only [List.length_map]
    rw [if_neg (by omega)]
    omega
  rw [c1, c2] at *
  have s2 := sm_new (o := .frz o2 (.tup ((p.drop (j + 1)).map V.int))) s1 hp2
  have x1 : XT (upd (upd H p1 (.frz o1 (.tup ((p.take j).map V.int)))) p2 (.frz o2 (.tup ((p.drop (j + 1)).map V.int)))) p1 ((p.take j).map V.int) := ⟨o1, upd_at upd_same hp2, ho1⟩
  have x2 : XT (upd (upd H p1 (.frz o1 (.tup ((p.take j).map V.int)))) p2 (.frz o2 (.tup ((p.drop (j + 1)).map V.int)))) p2 ((p.drop (j + 1)).map V.int) := ⟨o2, upd_same, ho2⟩
  refine ⟨p1, p2, _, _, rfl, rfl, x1.sqT, x2.sqT, ?_, fun e => ?_, fun e1 e2 => ?_, fun e1 e2 => ?_⟩
  · rw [List.length_map, List.length_map, List.length_take, List.length_drop]
    exact le_line (by omega)
  · have e' : p.take j = [] := by simpa using e
    refine q _ _ s2 ⟨p2, rfl, ?_⟩
    have ee : p.erase l = p.drop (j + 1) := by rw [er, e', List.nil_append]
    rw [ee]
    exact x2
  · have e' : p.drop (j + 1) = [] := by simpa using e2
    refine q _ _ s2 ⟨p1, rfl, ?_⟩
    have ee : p.erase l = p.take j := by rw [er, e', List.append_nil]
    rw [ee]
    exact x1
  · exfalso
    have e1' : ¬ p.take j = [] := by simpa using e1
    have e2' : ¬ p.drop (j + 1) = [] := by simpa using e2
    have l1 : 0 < (p.take j).length := List.length_pos_iff.mpr e1'
    have l2 : 0 < (p.drop (j + 1)).length := List.length_pos_iff.mpr e2'
    rw [List.length_take] at l1
    rw [List.length_drop] at l2
    omega
def spEnded : Sp := fun vs H Q _ => ∃ (v : V) (p : List Int) (b l : Int), vs = [v, .int b, .int l] ∧ X1 H v p ∧ Dl.Pat p ∧ b ≤ 11 ∧ 0 ≤ l ∧ ∀ H', Same H H' → Q (.int (Dl.ended p b l)) H'
theorem ok_ended (T : Txt K mg) (G : Giv K mg d_ended) (hw : Has P w K mg base "ways_of" 1 ["k", "pattern"] (spWays K)) (hwo : Has P w K mg base "without" 1 ["pattern", "length"] spWithout) : Has P w K mg base "ended" 2 ["pattern", "behind", "length"] spEnded := by
  refine has_mk (d := d_ended) (N := ["pattern", "behind", "length"]) G ⟨rfl, rfl, rfl, by decide +kernel, rfl, by decide +kernel, by decide +kernel⟩ (fun _ _ _ _ _ _ us hl => match us, hl with | [_, _, _], _ => rfl) (fun vs H Q E h => by obtain ⟨v, p, b, l, rfl, _⟩ := h; rfl) (fun f cdv A outer s H vs Q E hr h => ?_)
  obtain ⟨v, p, b, l, rfl, ⟨a, rfl, ht⟩, hp, hb, hl0, q⟩ := h
  refine ⟨_, pss_cons (ps_if (PW.pt (pw_or (pt_cmpR (opNotIn K rfl) (pv 2) (pv 0) (by rfl)) (pw_or1 (pt_cmpR op_lt (pe_op op_add (pe_op op_sub (pv 1) (pv 2)) pe_int) pe_int (nomark _))))) (pss_one (ps_ret pe_int)) pss_nil)
    (pss_one (ps_ret (pe_has hw hr (pa_cons (pe_op op_add (pe_op op_sub (pv 1) (pv 2)) pe_int) (pa_cons (pe_has hwo hr (pa_cons (pv 0) (pa_cons (pv 2) pa_nil))) pa_nil))))), ?_⟩
  refine ⟨_, rfl, _, rfl, a, _, rfl, .inr ht.sqT, rfl, flat_ints p, _, rfl, ?_⟩
  dsimp only
  rw [if_pos rfl, inV_ints]
  have zero : ¬ (l ∈ p ∧ 0 ≤ b - l + 1) → Q (.int 0) H := fun n => by
    have := q H (Same.refl H)
    unfold Dl.ended at this
    rw [if_neg n] at this
    exact this
  by_cases hm : l ∈ p
  · rw [decide_eq_true hm]
    refine iteF ?_
    refine ⟨_, rfl, _, rfl, _, _, rfl, rfl, _, _, rfl, rfl, _, _, rfl, rfl, _, rfl, ?_⟩
    refine ite2 (fun c => ?_) (fun c => ?_)
    · have c' := of_decide_eq_true c
      exact zero fun z => by omega
    · have c' : ¬ (b - l + 1 < 0) := fun z => c (decide_eq_true z)
      refine ⟨_, rfl, _, rfl, _, _, rfl, rfl, _, _, rfl, rfl, _, rfl, _, rfl, _, p, l, rfl, ⟨a, rfl, ht⟩, hp.len, hm, fun z H1 s1 hz => ?_⟩
      refine ⟨_, z, _, rfl, hz, (hp.erase hm).1, by omega, by omega, fun H2 s2 => ?_⟩
      have := q H2 (s1.trans s2)
      unfold Dl.ended at this
      rw [if_pos ⟨hm, by omega⟩] at this
      exact this
  · rw [decide_eq_false hm]
    refine iteT ?_
    exact zero fun z => hm z.1
end
end Dd

/-! begun -/
namespace Dd
open PySem PySem.Spec PyProof.Rows L2 Dr Dh
theorem ended_bd {p : List Int} {b l : Int} (h : Dl.Pat p) (hb : b ≤ 11) (hl : 0 ≤ l) : (Dl.ended p b l).natAbs < 2 ^ 29 := by
  have nn := Dl.ended_nn p b l
  unfold Dl.ended at *
  split
  · rename_i c
    have hp := (h.erase c.1).1
    by_cases s : (p.erase l).sum ≤ b - l + 1
    · have := (Dl.ways_pos hp s (by omega) c.2).2
      have n2 := Dl.ways_nn (b - l + 1) (p.erase l)
      omega
    · have : Dl.waysI (b - l + 1) (p.erase l) = 0 := by unfold Dl.waysI; rw [if_pos (by omega)]
      rw [this]; decide
  · decide
theorem sub_len : ∀ (a b : List Int), a.Nodup → (∀ x ∈ a, x ∈ b) → a.length ≤ b.length
  | [], _, _, _ => Nat.zero_le _
  | x :: a, b, nd, h => by
    have nd' := List.nodup_cons.mp nd
    have hx := h x List.mem_cons_self
    have := sub_len a (b.erase x) nd'.2 fun y hy => (List.mem_erase_of_ne (fun e : y = x => nd'.1 (e ▸ hy))).mpr (h y (List.mem_cons_of_mem _ hy))
    rw [List.length_erase_of_mem hx] at this
    have l0 : 0 < b.length := List.length_pos_of_mem hx
    rw [List.length_cons]
    omega
theorem dset_le (p : List Int) : (Dl.dset p).length ≤ p.length := by
  exact sub_len _ _ (Dl.lt_nodup (Dl.dset_srt p)) fun x hx => (Dl.dset_mem x p).mp hx
theorem sm_none {H H' : Hp} {D : Addr} (s : Same H H') (h : H' D = none) : H D = none := by
  cases e : H D with
  | none => rfl
  | some u => rw [s _ _ e] at h; cases h
section
variable {P : Program} {w : World} {K : PySem.W.Frag} {mg : Str → Option Value} {base : Heap}
def spBegun : Sp := fun vs H Q _ => ∃ (v : V) (p : List Int) (b l t : Int), vs = [v, .int b, .int l, .int t] ∧ X1 H v p ∧ Dl.Pat p ∧ -1 ≤ b ∧ b ≤ 11 ∧ 1 ≤ l ∧ l ≤ 20 ∧ 0 ≤ t ∧ t ≤ 12 ∧ ∀ H', Same H H' → Q (.int (Dl.begun p b l t)) H'
theorem ok_begun (T : Txt K mg) (G : Giv K mg d_begun) (he : Has P w K mg base "ended" 2 ["pattern", "behind", "length"] spEnded) : Has P w K mg base "begun" 3 ["pattern", "behind", "length", "later"] spBegun := by
  refine has_mk (d := d_begun) (N := ["pattern", "behind", "length", "later", "sizes", "size"]) G ⟨rfl, rfl, rfl, by decide +kernel, rfl, by decide +kernel, by decide +kernel⟩ (fun _ _ _ _ _ _ us hl => match us, hl with | [_, _, _, _], _ => rfl) (fun vs H Q E h => by obtain ⟨v, p, b, l, t, rfl, _⟩ := h; rfl) (fun f cdv A outer s H vs Q E hr h => ?_)
  obtain ⟨v, p, b, l, t, rfl, ⟨a, rfl, ht⟩, hp, hb0, hb, hl1, hl2, ht0, ht1, q⟩ := h
  have nd : (["pattern", "behind", "length", "later", "sizes", "size"] : List Str).Nodup := by decide +kernel
  refine ⟨_, pss_cons (ps_setLc (i := 4) (own := [("size", 5)]) (g := gName 5) rfl nd rfl (by rfl) (sw_true (by rfl) (by rfl) (by rfl) (by rfl)) (pi_list (pe_callB (cr_sortedSet rfl) (by rfl) T.sorted b_sorted (pa_cons (pe_callTy (cr_setT rfl) (by rfl) T.set b_set (pa_cons (pv 0) pa_nil)) pa_nil))) (blkOk_by (N := ["pattern", "behind", "length", "later", "sizes", "size"]) (sc := d_begun.scope) (by decide +kernel))
      (fun _ _ _ _ _ => pg_name (i := 5) nd rfl (Or.inl rfl)) (fun _ _ _ _ _ => pts_one (pt_chain op_le op_le (pv 2) (pv 5) (pe_op op_add (pv 2) (pv 3)))) (fun _ _ _ _ _ => pv 5))
    (pss_one (ps_ret (pe_callB (cr_sum rfl) (by rfl) T.sum b_sum (pa_cons (pe_lc (own := [("size", 5)]) (g := gName 5) (tt := tYes) rfl nd (pi_list (pv 4)) (blkOk_by (N := ["pattern", "behind", "length", "later", "sizes", "size"]) (sc := d_begun.scope) (by decide +kernel))
      (fun _ _ _ _ _ => pg_name (i := 5) nd rfl (Or.inl rfl)) (fun _ _ _ _ _ => pts_nil)
      (fun _ _ _ _ _ => pe_op op_mulW (pe_callBfun cr_comb (by rfl) T.comb (pa_cons (pv 3) (pa_cons (pe_op op_sub (pv 5) (pv 2)) pa_nil))) (pe_has he hr (pa_cons (pv 0) (pa_cons (pv 1) (pa_cons (pv 5) pa_nil)))))) pa_nil)))), ?_⟩
  have hT : SqT K H a (p.map V.int) := ht.sqT
  refine ⟨_, rfl, a, p, rfl, hT, by have := hp.len; omega, fun pS c hS hc => ?_⟩
  refine ⟨pS, _, c, rfl, upd_same, by have := hp.len; omega, fun ns pL hs hm hlen hL => ?_⟩
  have en : ns = Dl.dset p := Dl.dset_eq (fun x => by rw [hm x]; simp) hs
  subst en
  have sm2 : Same H (upd (upd H pS (SetO w pS (fun j => decide (j ∈ p)) c)) pL (.lst ((Dl.dset p).map V.int))) := sm_new (sm_new (Same.refl H) hS) hL
  have dl := dset_le p
  refine ⟨pL, rfl, ⟨_, SqL.of upd_same⟩, fun D hD => ?_⟩
  have hD0 : H D = none := sm_none sm2 hD
  have hDL : pL ≠ D := ne_of_none upd_same hD
  refine lc_list (K := K) (a := pL) (xs := (Dl.dset p).map V.int) (fun i H' => Same H H' ∧ H' pL = some (.lst ((Dl.dset p).map V.int)) ∧ H' D = some (.lst ((((Dl.dset p).take i).filter fun s => decide (l ≤ s ∧ s ≤ l + t)).map V.int)))
    ⟨sm_new sm2 hD, upd_at upd_same hD, upd_same⟩ (fun i H' _ z => SqL.of z.2.1) ?_ ?_
  · rintro i x H3 hi ⟨s3, e2, e3⟩
    obtain ⟨n, hn, rfl⟩ := int_get hi
    have n12 := size_le hp ((Dl.dset_mem n p).mp (List.mem_of_getElem? hn))
    have zz : ((Dl.dset p).take (i + 1)).filter (fun s => decide (l ≤ s ∧ s ≤ l + t)) = ((Dl.dset p).take i).filter (fun s => decide (l ≤ s ∧ s ≤ l + t)) ++ (if decide (l ≤ n ∧ n ≤ l + t) = true then [n] else []) := filt_snoc hn
    have ll : (((Dl.dset p).take i).filter fun s => decide (l ≤ s ∧ s ≤ l + t)).length ≤ 2 := Nat.le_trans (List.length_filter_le _ _) (Nat.le_trans (by rw [List.length_take]; omega) (Nat.le_trans dl hp.len))
    refine ⟨rfl, ?_⟩
    refine ⟨_, rfl, _, rfl, _, _, rfl, rfl, _, rfl, ?_⟩
    by_cases c1 : l ≤ n
    · dsimp only
      rw [decide_eq_true c1]
      refine iteT ?_
      refine ⟨_, rfl, _, rfl, _, _, rfl, rfl, _, _, rfl, rfl, ?_⟩
      by_cases c2 : n ≤ l + t
      · rw [decide_eq_true (show l ≤ n ∧ n ≤ l + t from ⟨c1, c2⟩), if_pos rfl] at zz
        refine ⟨_, rfl, ?_⟩
        rw [decide_eq_true c2]
        refine iteT ?_
        refine ⟨_, rfl, _, e3, lt_line (by rw [List.length_map]; omega), sm_put s3 hD0, (upd_ne hDL).trans e2, ?_⟩
        rw [zz, List.map_append]
        exact upd_same
      · rw [decide_eq_false (show ¬ (l ≤ n ∧ n ≤ l + t) from fun z => c2 z.2)] at zz
        refine ⟨_, rfl, ?_⟩
        rw [decide_eq_false c2]
        refine iteF ⟨s3, e2, ?_⟩
        rw [zz, if_neg (by decide), List.append_nil]
        exact e3
    · rw [decide_eq_false (show ¬ (l ≤ n ∧ n ≤ l + t) from fun z => c1 z.1)] at zz
      dsimp only
      rw [decide_eq_false c1]
      refine iteF ⟨_, rfl, iteF ⟨s3, e2, ?_⟩⟩
      rw [zz, if_neg (by decide), List.append_nil]
      exact e3
  · rintro H3 ⟨s3, _, e3⟩
    rw [List.length_map, List.take_length] at e3
    generalize eS : ((Dl.dset p).filter fun s => decide (l ≤ s ∧ s ≤ l + t)) = S at e3
    have hS : ∀ s ∈ S, l ≤ s ∧ s ≤ l + t ∧ s ∈ p := fun s hs => by
      rw [← eS] at hs
      have := List.mem_filter.mp hs
      have z := of_decide_eq_true this.2
      exact ⟨z.1, z.2, (Dl.dset_mem s p).mp this.1⟩
    have lS : S.length ≤ 2 := by
      rw [← eS]
      exact Nat.le_trans (List.length_filter_le _ _) (Nat.le_trans dl hp.len)
    refine ⟨_, rfl, D, rfl, ⟨_, SqL.of e3⟩, fun D2 hD2 => lc_list (K := K) (a := D) (xs := S.map V.int) (fun i H' => Same H3 H' ∧ H' D2 = some (.lst (((S.take i).map (Dl.bterm p b l t)).map V.int)))
      ⟨sm_new (Same.refl H3) hD2, upd_same⟩ (fun i H' _ z => SqL.of (z.1 _ _ e3)) ?_ ?_⟩
    · rintro i x H4 hi ⟨s4, e4⟩
      obtain ⟨n, hn, rfl⟩ := int_get hi
      obtain ⟨n1, n2, n3⟩ := hS n (List.mem_of_getElem? hn)
      have n12 := size_le hp n3
      have hX := (sm_stay (K := K) (s3.trans s4)).x _ _ ht
      have cm := cmb_ok (a := t) (b := n - l) ht0 ht1 (by omega) (by omega)
      refine ⟨rfl, lcY ?_⟩
      refine ⟨_, rfl, _, rfl, _, rfl, _, _, rfl, rfl, t, n - l, rfl, ht0, by omega, by omega, by omega, ?_⟩
      refine ⟨_, rfl, _, rfl, _, rfl, _, p, b, n, rfl, ⟨a, rfl, hX⟩, hp, hb, by omega, fun H5 s5 => ?_⟩
      refine ⟨_, _, rfl, rfl, ?_, _, s5 _ _ e4, lt_line (by rw [List.length_map, List.length_map, List.length_take]; omega), sm_put (s4.trans s5) hD2, ?_⟩
      · rw [cm.1]
        exact wide_mul (a := 29) (b := 29) (by rw [Int.natAbs_natCast]; exact Nat.lt_trans cm.2 (by decide)) (ended_bd hp hb (by omega)) (by decide) (by decide) (by decide)
      · rw [take_snoc hn, List.map_append, List.map_append, cm.1]
        exact upd_same
    · rintro H4 ⟨s4, e4⟩
      rw [List.length_map, List.take_length] at e4
      refine ⟨D2, _, rfl, SqL.of e4, ?_⟩
      have := q H4 (s3.trans s4)
      unfold Dl.begun at this
      rw [eS] at this
      exact this
end
end Dd

/-! nth_group -/
namespace Dd
open PySem PySem.Spec PyProof.Rows L2 Dr Dh
/-- while, by a word and a number -/
theorem while_n {c : TT} {tb : TS} {D : Ends} {σ : L2.St} {H : Hp} (Pv : Nat → L2.St → Hp → Prop) {m0 : Nat} (h0 : Pv m0 σ H)
    (hs : ∀ m σ H, Pv m σ H → c σ H fun b H1 => if b = true then ∃ N : L2.St → Hp → Prop, (∀ σ' H', N σ' H' → ∃ m', m' < m ∧ Pv m' σ' H') ∧ tb { D with nx := N, ct := N, bk := D.nx } σ H1 else D.nx σ H1) : tWhile c tb D σ H :=
  ⟨Pv, ⟨m0, h0⟩, hs⟩
theorem cut_from {ns : List Int} {j : Int} {i : Nat} (e : j = (i : Int)) : cutV (ns.map V.int) (some j) none = (ns.drop i).map V.int := by
  subst e
  unfold cutV HT.sIx
  simp only [List.length_map]
  rw [if_neg (by omega), Int.toNat_natCast]
  by_cases h : i ≤ ns.length
  · rw [Nat.min_eq_left h, ← List.map_drop]
    refine List.take_of_length_le ?_
    simp
  · rw [Nat.min_eq_right (by omega), List.drop_eq_nil_of_le (by simp), List.drop_eq_nil_of_le (by omega)]
    simp
theorem cut_prop {n : Nat} {j : Int} {x : Option Int} (h : 0 < n) (hj : 0 < j) : ¬ (HT.sIx n 0 (some j) = 0 ∧ HT.sIx n n x = n) := by
  rintro ⟨z, _⟩
  unfold HT.sIx at z
  simp only at z
  rw [if_neg (by omega)] at z
  omega
section
variable {P : Program} {w : World} {K : PySem.W.Frag} {mg : Str → Option Value} {base : Heap}
def spNthG (K : PySem.W.Frag) : Sp := fun vs H Q _ => ∃ (u v : V) (ns p : List Int) (k : Int), vs = [u, v, .int k] ∧ T1 K H u ns ∧ X1 H v p ∧ Dl.Pat p ∧ p ≠ [] ∧ ns.Pairwise (· < ·) ∧ ns.length ≤ 12 ∧ 0 ≤ k ∧ k < Dl.waysI ns.length p ∧
  ∀ H' z y g k', Same H H' → SqT K H' z [y, .int k'] → T1 K H' y g → Dl.GOut ns p g → 0 ≤ k' → k' < Dl.waysI (Dl.laterL ns g).length (p.erase g.length) → Q (.ref z) H'
theorem ok_nth_group (T : Txt K mg) (G : Giv K mg d_nth_group) (he : Has P w K mg base "ended" 2 ["pattern", "behind", "length"] spEnded) (hb : Has P w K mg base "begun" 3 ["pattern", "behind", "length", "later"] spBegun) : Has P w K mg base "nth_group" 4 ["names", "pattern", "k"] (spNthG K) := by
  refine has_mk (d := d_nth_group) (N := ["names", "pattern", "k", "at", "behind", "group", "left"]) G ⟨rfl, rfl, rfl, by decide +kernel, rfl, by decide +kernel, by decide +kernel⟩ (fun _ _ _ _ _ _ us hl => match us, hl with | [_, _, _], _ => rfl) (fun vs H Q E h => by obtain ⟨u, v, ns, p, k, rfl, _⟩ := h; rfl) (fun f cdv A outer s H vs Q E hr h => ?_)
  obtain ⟨u, v, ns, p, k, rfl, ⟨a, rfl, ha⟩, ⟨c, rfl, hc⟩, hp, hpn, hn, hn12, hk0, hk, q⟩ := h
  have nd : (["names", "pattern", "k", "at", "behind", "group", "left"] : List Str).Nodup := by decide +kernel
  have hr2 : Room 2 (A.deeper (envOfC d_nth_group.qual d_nth_group.scope s.heap.objs.size f cdv)) := hr.mono (by decide)
  refine ⟨_, pss_cons (ps_set (i := 3) nd rfl (Or.inl rfl) pe_int)
    (pss_cons (ps_set (i := 4) nd rfl (Or.inl rfl) (pe_op op_sub (pe_callB call_len_seq (by rfl) T.len b_len (pa_cons (pv 0) pa_nil)) pe_int))
    (pss_cons (ps_while PassesOwn.never (pt_cmpR op_ge (pv 2) (pe_has hb hr (pa_cons (pv 1) (pa_cons (pv 4) (pa_cons pe_int (pa_cons (pv 4) pa_nil))))) (nomark _))
      (pss_cons (ps_set (i := 2) nd rfl (Or.inl rfl) (pe_op op_sub (pv 2) (pe_has hb hr (pa_cons (pv 1) (pa_cons (pv 4) (pa_cons pe_int (pa_cons (pv 4) pa_nil)))))))
      (pss_one (ps_par (i := 3) (j := 4) rfl nd rfl rfl (by decide) rfl rfl (pa_cons (pe_op op_add (pv 3) pe_int) (pa_cons (pe_op op_sub (pv 4) pe_int) pa_nil)) (by rfl)))))
    (pss_cons (ps_par (i := 5) (j := 6) rfl nd rfl rfl (by decide) rfl rfl (pa_cons (pe_tup (pa_cons (pe_ix ix_tup (pv 0) (pv 3) (fun _ _ => rfl)) pa_nil)) (pa_cons (pe_slice sl_tup (pv 0) (po_some (pe_op op_add (pv 3) pe_int)) po_none) pa_nil)) (by rfl))
    (pss_cons (ps_while PassesOwn.never (pt_cmpR op_ge (pv 2) (pe_has he hr2 (pa_cons (pv 1) (pa_cons (pv 4) (pa_cons (pe_callB call_len_seq (by rfl) T.len b_len (pa_cons (pv 5) pa_nil)) pa_nil)))) (nomark _))
      (pss_cons (ps_set (i := 2) nd rfl (Or.inl rfl) (pe_op op_sub (pv 2) (pe_has he hr2 (pa_cons (pv 1) (pa_cons (pv 4) (pa_cons (pe_callB call_len_seq (by rfl) T.len b_len (pa_cons (pv 5) pa_nil)) pa_nil))))))
      (pss_cons (ps_set (i := 3) nd rfl (Or.inl rfl) pe_int)
      (pss_cons (ps_while PassesOwn.never (pt_cmpR op_ge (pv 2) (pe_has hb hr (pa_cons (pv 1) (pa_cons (pv 4) (pa_cons (pe_op op_add (pe_callB call_len_seq (by rfl) T.len b_len (pa_cons (pv 5) pa_nil)) pe_int) (pa_cons (pe_op op_sub (pe_op op_sub (pe_callB call_len_seq (by rfl) T.len b_len (pa_cons (pv 6) pa_nil)) (pv 3)) pe_int) pa_nil))))) (nomark _))
        (pss_cons (ps_set (i := 2) nd rfl (Or.inl rfl) (pe_op op_sub (pv 2) (pe_has hb hr (pa_cons (pv 1) (pa_cons (pv 4) (pa_cons (pe_op op_add (pe_callB call_len_seq (by rfl) T.len b_len (pa_cons (pv 5) pa_nil)) pe_int) (pa_cons (pe_op op_sub (pe_op op_sub (pe_callB call_len_seq (by rfl) T.len b_len (pa_cons (pv 6) pa_nil)) (pv 3)) pe_int) pa_nil)))))))
        (pss_one (ps_set (i := 3) nd rfl (Or.inl rfl) (pe_op op_add (pv 3) pe_int)))))
      (pss_one (ps_par (i := 5) (j := 6) rfl nd rfl rfl (by decide) rfl rfl (pa_cons (pe_op op_catT (pv 5) (pe_tup (pa_cons (pe_ix ix_tup (pv 6) (pv 3) (fun _ _ => rfl)) pa_nil))) (pa_cons (pe_slice sl_tup (pv 6) (po_some (pe_op op_add (pv 3) pe_int)) po_none) pa_nil)) (by rfl)))))))
    (pss_one (ps_ret (pe_tup (pa_cons (pv 5) (pa_cons (pv 2) pa_nil))))))))), ?_⟩
  refine ⟨_, rfl, a, _, rfl, .inr ha, _, _, rfl, rfl, ?_⟩
  rw [List.length_map]
  refine while_n (fun m σ H' => Same H H' ∧ ∃ (k' : Int) (i : Nat) (b : Int), σ = [some (.ref a), some (.ref c), some (.int k'), some (.int (i : Nat)), some (.int b), none, none] ∧ (i : Int) + b + 1 = ns.length ∧ -1 ≤ b ∧ 0 ≤ k' ∧ k' < Dl.waysI (b + 1) p ∧ m = (b + 1).toNat)
    ⟨Same.refl H, k, 0, (ns.length : Int) - 1, rfl, by omega, by omega, hk0, by rw [show (ns.length : Int) - 1 + 1 = ns.length by omega]; exact hk, rfl⟩ ?_
  rintro m σ H1 ⟨s1, k1, i, b, rfl, e1, hb1, k10, hk1, rfl⟩
  have hb0 : 0 ≤ b := by
    by_cases z : b = -1
    · subst z
      have := Dl.ways_zero hp hpn
      rw [show (-1 : Int) + 1 = 0 from rfl, this] at hk1
      omega
    · omega
  have stp := Dl.ways_step hp hpn hb0 (show b ≤ 11 by omega)
  refine ⟨_, rfl, _, rfl, _, rfl, _, rfl, _, p, b, 1, b, rfl, ⟨c, rfl, (sm_stay (K := K) s1).x _ _ hc⟩, hp, hb1, by omega, by decide, by decide, hb0, by omega, fun H2 s2 => ?_⟩
  refine ⟨_, _, rfl, rfl, _, rfl, ?_⟩
  refine ite2 (fun c1 => ?_) (fun c1 => ?_)
  · have c2 : Dl.begun p b 1 b ≤ k1 := of_decide_eq_true c1
    refine ⟨_, fun _ _ z => z, ?_⟩
    refine ⟨_, rfl, _, rfl, _, rfl, _, rfl, _, p, b, 1, b, rfl, ⟨c, rfl, (sm_stay (K := K) (s1.trans s2)).x _ _ hc⟩, hp, hb1, by omega, by decide, by decide, hb0, by omega, fun H3 s3 => ?_⟩
    refine ⟨_, _, rfl, rfl, ?_⟩
    refine ⟨_, rfl, _, _, rfl, rfl, _, rfl, _, _, rfl, rfl, _, _, rfl, ?_⟩
    refine ⟨b.toNat, by omega, (s1.trans s2).trans s3, _, i + 1, b - 1, rfl, by omega, by omega, by omega, ?_, by omega⟩
    rw [show b - 1 + 1 = b by omega]
    omega
  have c2 : k1 < Dl.begun p b 1 b := by
    have : ¬ Dl.begun p b 1 b ≤ k1 := fun z => c1 (decide_eq_true z)
    omega
  have il : i < ns.length := by omega
  have gi : ns[i]? = some ns[i] := List.getElem?_eq_getElem il
  have s12 := s1.trans s2
  have ha2 := (sm_stay (K := K) s12).t _ _ ha
  refine ⟨_, rfl, _, rfl, a, _, _, _, rfl, rfl, ha2, at_of (j := i) rfl (int_at gi), by show 1 ≤ sizeLine; decide, fun p3 hp3 => ?_⟩
  have s3 := sm_new (o := .tup [.int ns[i]]) s12 hp3
  have ha3 := (sm_stay (K := K) s3).t _ _ ha
  refine ⟨_, rfl, _, rfl, _, _, rfl, rfl, _, rfl, a, _, rfl, ha3, cut_prop (by rw [List.length_map]; omega) (by omega), fun p4 hp4 => ?_⟩
  rw [cut_from (i := i + 1) (by omega)]
  have s4 := sm_new (o := .tup ((ns.drop (i + 1)).map V.int)) s3 hp4
  refine ⟨_, _, rfl, ?_⟩
  refine while_n (fun m σ H' => Same H H' ∧ ∃ (k' z : Int) (g L : List Int) (y l : V), σ = [some (.ref a), some (.ref c), some (.int k'), some (.int z), some (.int b), some y, some l] ∧ T1 K H' y g ∧ T1 K H' l L ∧ Dl.GGo ns i g L ∧ 1 ≤ g.length ∧ (g.length : Int) + L.length ≤ b + 1 ∧ 0 ≤ k' ∧ k' < Dl.begun p b g.length L.length ∧ m = L.length)
    ⟨s4, k1, i, [ns[i]], ns.drop (i + 1), .ref p3, .ref p4, rfl, ⟨p3, rfl, SqT.of (upd_at upd_same hp4)⟩, ⟨p4, rfl, SqT.of upd_same⟩, Dl.GGo.start gi, Nat.le_refl 1, by rw [List.length_drop]; show (1 : Int) + _ ≤ _; omega, k10, ?_, rfl⟩ ?_
  · rw [List.length_drop, show ((ns.length - (i + 1) : Nat) : Int) = b by omega]
    exact c2
  rintro m σ H5 ⟨s5, k2, z, g, L, y, l, rfl, ⟨ag, rfl, hg⟩, ⟨al, rfl, hL⟩, go, hg1, hgl, hk20, hk2, rfl⟩
  refine ⟨_, rfl, _, rfl, _, rfl, _, rfl, ag, _, rfl, .inr hg, ?_⟩
  rw [List.length_map]
  refine ⟨_, p, b, g.length, rfl, ⟨c, rfl, (sm_stay (K := K) s5).x _ _ hc⟩, hp, by omega, by omega, fun H6 s6 => ?_⟩
  have nn := Dl.ended_nn p b g.length
  refine ⟨_, _, rfl, rfl, _, rfl, ?_⟩
  refine ite2 (fun c3 => ?_) (fun c3 => ?_)
  · have c4 : Dl.ended p b g.length ≤ k2 := of_decide_eq_true c3
    refine ⟨_, fun _ _ z => z, ?_⟩
    have s56 := s5.trans s6
    have hg6 := (sm_stay (K := K) s6).t _ _ hg
    refine ⟨_, rfl, _, rfl, _, rfl, _, rfl, ag, _, rfl, .inr hg6, ?_⟩
    rw [List.length_map]
    refine ⟨_, p, b, g.length, rfl, ⟨c, rfl, (sm_stay (K := K) s56).x _ _ hc⟩, hp, by omega, by omega, fun H7 s7 => ?_⟩
    refine ⟨_, _, rfl, rfl, ?_⟩
    refine while_n (fun m σ H' => Same H5 H' ∧ ∃ (k' : Int) (j : Nat), σ = [some (.ref a), some (.ref c), some (.int k'), some (.int (j : Nat)), some (.int b), some (.ref ag), some (.ref al)] ∧ j ≤ L.length ∧ 0 ≤ k' ∧ k' + Dl.ended p b g.length < Dl.begun p b g.length ((L.length : Int) - j) ∧ m = L.length - j)
      ⟨s6.trans s7, _, 0, rfl, Nat.zero_le _, by omega, by rw [show ((L.length : Int) - (0 : Nat)) = L.length by omega]; omega, rfl⟩ ?_
    rintro m σ H8 ⟨s8, k3, j, rfl, hj, hk30, hk3, rfl⟩
    have hjl : j < L.length := by
      by_cases z : j = L.length
      · exfalso
        rw [z, show (L.length : Int) - (L.length : Nat) = 0 by omega, Dl.begun_zero] at hk3
        omega
      · omega
    have st := Dl.begun_step p b (g.length : Int) (later := (L.length : Int) - j - 1) (by omega)
    rw [show (L.length : Int) - j - 1 + 1 = (L.length : Int) - j by omega] at st
    have s58 := s5.trans s8
    have hg8 := (sm_stay (K := K) s8).t _ _ hg
    have hL8 := (sm_stay (K := K) s8).t _ _ hL
    refine ⟨_, rfl, _, rfl, _, rfl, _, rfl, ag, _, rfl, .inr hg8, _, _, rfl, rfl, _, rfl, al, _, rfl, .inr hL8, _, rfl, _, _, rfl, rfl, _, _, rfl, rfl, ?_⟩
    rw [List.length_map, List.length_map]
    refine ⟨_, p, b, (g.length : Int) + 1, (L.length : Int) - j - 1, rfl, ⟨c, rfl, (sm_stay (K := K) s58).x _ _ hc⟩, hp, hb1, by omega, by omega, by omega, by omega, by omega, fun H9 s9 => ?_⟩
    refine ⟨_, _, rfl, rfl, _, rfl, ?_⟩
    refine ite2 (fun c5 => ?_) (fun c5 => ?_)
    · have c6 : Dl.begun p b ((g.length : Int) + 1) ((L.length : Int) - j - 1) ≤ k3 := of_decide_eq_true c5
      refine ⟨_, fun _ _ z => z, ?_⟩
      have s89 := s8.trans s9
      have hg9 := (sm_stay (K := K) s89).t _ _ hg
      have hL9 := (sm_stay (K := K) s89).t _ _ hL
      refine ⟨_, rfl, _, rfl, _, rfl, _, rfl, ag, _, rfl, .inr hg9, _, _, rfl, rfl, _, rfl, al, _, rfl, .inr hL9, _, rfl, _, _, rfl, rfl, _, _, rfl, rfl, ?_⟩
      rw [List.length_map, List.length_map]
      refine ⟨_, p, b, (g.length : Int) + 1, (L.length : Int) - j - 1, rfl, ⟨c, rfl, (sm_stay (K := K) (s5.trans s89)).x _ _ hc⟩, hp, hb1, by omega, by omega, by omega, by omega, by omega, fun H10 s10 => ?_⟩
      refine ⟨_, _, rfl, rfl, ?_⟩
      refine ⟨_, rfl, _, _, rfl, rfl, ?_⟩
      refine ⟨L.length - (j + 1), by omega, s89.trans s10, _, j + 1, rfl, by omega, by omega, ?_, rfl⟩
      rw [show (L.length : Int) - ((j + 1 : Nat) : Int) = (L.length : Int) - j - 1 by omega]
      omega
    · have c6 : k3 < Dl.begun p b ((g.length : Int) + 1) ((L.length : Int) - j - 1) := by
        have : ¬ Dl.begun p b ((g.length : Int) + 1) ((L.length : Int) - j - 1) ≤ k3 := fun z => c5 (decide_eq_true z)
        omega
      have gj : L[j]? = some L[j] := List.getElem?_eq_getElem hjl
      have s89 := s8.trans s9
      have hg9 := (sm_stay (K := K) s89).t _ _ hg
      have hL9 := (sm_stay (K := K) s89).t _ _ hL
      refine ⟨_, rfl, _, rfl, _, rfl, al, _, _, _, rfl, rfl, hL9, at_of (j := j) rfl (int_at gj), by show 1 ≤ sizeLine; decide, fun p5 hp5 => ?_⟩
      have sA := sm_new (o := .tup [.int L[j]]) s89 hp5
      have hgA := (sm_stay (K := K) sA).t _ _ hg
      refine ⟨ag, p5, _, _, rfl, rfl, hgA, SqT.of upd_same, ?_, ?_, fun e => ?_, fun _ p6 hp6 => ?_⟩
      · intro e
        have : g = [] := by simpa using e
        rw [this] at hg1
        exact absurd hg1 (by decide)
      · show _ + 1 ≤ sizeLine
        rw [List.length_map]
        exact le_line (by omega)
      · cases e
      have sB := sm_new (o := .tup (g.map V.int ++ [.int L[j]])) sA hp6
      have hLB := (sm_stay (K := K) sB).t _ _ hL
      refine ⟨_, rfl, _, rfl, _, _, rfl, rfl, _, rfl, al, _, rfl, hLB, cut_prop (by rw [List.length_map]; omega) (by omega), fun p7 hp7 => ?_⟩
      rw [cut_from (i := j + 1) (by omega)]
      have sC := sm_new (o := .tup ((L.drop (j + 1)).map V.int)) sB hp7
      refine ⟨_, _, rfl, (L.drop (j + 1)).length, by rw [List.length_drop]; omega, s5.trans sC, k3, j, g ++ [L[j]], L.drop (j + 1), .ref p6, .ref p7, rfl, ⟨p6, rfl, ?_⟩, ⟨p7, rfl, SqT.of upd_same⟩, go.step gj, by simp, ?_, hk30, ?_, rfl⟩
      · rw [List.map_append]
        exact SqT.of (upd_at upd_same hp7)
      · rw [List.length_append, List.length_drop]
        show (((g.length + 1 : Nat) : Int)) + _ ≤ _
        omega
      · rw [List.length_append, List.length_drop]
        rw [show ((g.length + [L[j]].length : Nat) : Int) = (g.length : Int) + 1 by simp, show ((L.length - (j + 1) : Nat) : Int) = (L.length : Int) - j - 1 by omega]
        exact c6
  · have c4 : k2 < Dl.ended p b g.length := by
      have : ¬ Dl.ended p b g.length ≤ k2 := fun z => c3 (decide_eq_true z)
      omega
    have cc : ((g.length : Nat) : Int) ∈ p ∧ 0 ≤ b - g.length + 1 := by
      by_cases z : ((g.length : Nat) : Int) ∈ p ∧ 0 ≤ b - g.length + 1
      · exact z
      · unfold Dl.ended at c4
        rw [if_neg z] at c4
        omega
    have ev : Dl.ended p b g.length = Dl.waysI (b - g.length + 1) (p.erase g.length) := by
      unfold Dl.ended
      rw [if_pos cc]
    have go2 := go.out hn cc.1
    refine ⟨_, rfl, _, rfl, by show 2 ≤ sizeLine; decide, fun p5 hp5 => ?_⟩
    refine q _ p5 (.ref ag) g k2 (sm_new (s5.trans s6) hp5) (SqT.of upd_same) ⟨ag, rfl, (sm_stay (K := K) (sm_new s6 hp5)).t _ _ hg⟩ go2.1 hk20 ?_
    rw [go2.2]
    rw [ev] at c4
    rw [show (ns.length : Int) - i - 1 - g.length + 1 = b - g.length + 1 by omega]
    exact c4
end
end Dd

/-! later_names, groups_at -/
namespace Dd
open PySem PySem.Spec PyProof.Rows L2 Dr Dh
theorem lay_ints : ∀ ns : List Int, PyData.canLayAll0 (ns.map PyData.int) = true
  | [] => rfl
  | n :: ns => by
    simp only [List.map_cons, PyData.canLayAll0, PyData.canLay0, Bool.true_and]
    exact lay_ints ns
theorem dep_ints : ∀ ns : List Int, PyData.depthAll (ns.map PyData.int) ≤ 1
  | [] => by simp [PyData.depthAll]
  | n :: ns => by
    have := dep_ints ns
    simp only [List.map_cons, PyData.depthAll, PyData.depth]
    omega
theorem sh1 (ns : List Int) : SeqAt.shaped (d1 ns) = true := by
  unfold SeqAt.shaped d1
  rw [Bool.and_eq_true]
  refine ⟨by simp only [PyData.canLay0]; exact lay_ints ns, decide_eq_true ?_⟩
  have := dep_ints ns
  simp only [PyData.depth]
  omega
theorem lay2 : ∀ xs : List (List Int), PyData.canLayAll0 (xs.map d1) = true
  | [] => rfl
  | x :: xs => by
    simp only [List.map_cons, PyData.canLayAll0, d1, PyData.canLay0]
    rw [lay_ints x, Bool.true_and]
    exact lay2 xs
theorem dep2 : ∀ xs : List (List Int), PyData.depthAll (xs.map d1) ≤ 2
  | [] => by simp [PyData.depthAll]
  | x :: xs => by
    have := dep2 xs
    have := dep_ints x
    simp only [List.map_cons, PyData.depthAll, d1, PyData.depth]
    omega
theorem sh2 (xs : List (List Int)) : SeqAt.shaped (d2 xs) = true := by
  unfold SeqAt.shaped d2
  rw [Bool.and_eq_true]
  refine ⟨by simp only [PyData.canLay0]; exact lay2 xs, decide_eq_true ?_⟩
  have := dep2 xs
  simp only [PyData.depth]
  omega
theorem eqv1 (ns : List Int) : PyData.eqv (d1 ns) (d1 ns) = true := SeqAt.eqv_refl _ (SeqAt.canLay_of_shaped (sh1 ns))
theorem eqv2 (xs : List (List Int)) : PyData.eqv (d2 xs) (d2 xs) = true := SeqAt.eqv_refl _ (SeqAt.canLay_of_shaped (sh2 xs))
theorem eqv_nil (ns : List Int) : PyData.eqv (d1 ns) (d1 []) = decide (ns = []) := by
  cases ns with
  | nil => rfl
  | cons n ns => simp [d1, PyData.eqv, PyData.eqvAll]
section
variable {P : Program} {w : World} {K : PySem.W.Frag} {mg : Str → Option Value} {base : Heap}
def spLater (K : PySem.W.Frag) : Sp := fun vs H Q _ => ∃ (u v : V) (ns g : List Int), vs = [u, v] ∧ T1 K H u ns ∧ T1 K H v g ∧ g ≠ [] ∧ ns.length ≤ 100 ∧ ∀ z H', Same H H' → T1 K H' z (Dl.laterL ns g) → Q z H'
theorem ok_later_names (T : Txt K mg) (G : Giv K mg d_later_names) : Has P w K mg base "later_names" 1 ["names", "group"] (spLater K) := by
  refine has_mk (d := d_later_names) (N := ["names", "group", "name"]) G ⟨rfl, rfl, rfl, by decide +kernel, rfl, by decide +kernel, by decide +kernel⟩ (fun _ _ _ _ _ _ us hl => match us, hl with | [_, _], _ => rfl) (fun vs H Q E h => by obtain ⟨u, v, ns, p, rfl, _⟩ := h; rfl) (fun f cdv A outer s H vs Q E hr h => ?_)
  obtain ⟨u, v, ns, g, rfl, ⟨a, rfl, ha⟩, ⟨c, rfl, hc⟩, hg, hl, q⟩ := h
  have nd : (["names", "group", "name"] : List Str).Nodup := by decide +kernel
  refine ⟨_, pss_one (ps_ret (pe_callTy (crTup K rfl) (by rfl) T.tuple b_tuple (pa_cons (pe_lc (own := [("name", 2)]) (g := gName 2) rfl nd (pi_tup (pv 0)) (blkOk_by (N := ["names", "group", "name"]) (sc := d_later_names.scope) (by decide +kernel))
    (fun _ _ _ _ _ => pg_name (i := 2) nd rfl (Or.inl rfl)) (fun _ _ _ _ _ => pts_one (PW.pt (pw_and (pt_cmpR op_gt (pv 2) (pe_ix (ixT K rfl) (pv 1) pe_int (fun _ _ => rfl)) (nomark _)) (pw_and1 (pt_cmpR (opNotIn K rfl) (pv 2) (pv 1) (by rfl)))))) (fun _ _ _ _ _ => pv 2)) pa_nil))), ?_⟩
  refine ⟨_, rfl, a, rfl, ⟨_, ha⟩, fun D hD => lc_tup (K := K) (a := a) (xs := ns.map V.int) (fun i H' => Same H H' ∧ H' D = some (.lst (((ns.take i).filter fun x => decide (g.headD 0 < x ∧ x ∉ g)).map V.int)))
    ⟨sm_new (Same.refl H) hD, upd_same⟩ (fun i H' _ z => (sm_stay z.1).t _ _ ha) ?_ ?_⟩
  · rintro i x H1 hi ⟨s1, e1⟩
    obtain ⟨n, hn, rfl⟩ := int_get hi
    have zz : (ns.take (i + 1)).filter (fun x => decide (g.headD 0 < x ∧ x ∉ g)) = (ns.take i).filter (fun x => decide (g.headD 0 < x ∧ x ∉ g)) ++ (if decide (g.headD 0 < n ∧ n ∉ g) = true then [n] else []) := filt_snoc hn
    have il : i < ns.length := (List.getElem?_eq_some_iff.mp hn).1
    have ll : ((ns.take i).filter fun x => decide (g.headD 0 < x ∧ x ∉ g)).length ≤ 100 := Nat.le_trans (List.length_filter_le _ _) (by rw [List.length_take]; omega)
    have hc1 := (sm_stay (K := K) s1).t _ _ hc
    obtain ⟨g0, gs, rfl⟩ := List.exists_cons_of_ne_nil hg
    refine ⟨rfl, ?_⟩
    refine ⟨_, rfl, _, rfl, c, _, 0, .int g0, rfl, rfl, hc1, at_of (j := 0) rfl rfl, _, _, rfl, rfl, _, rfl, ?_⟩
    refine ite2 (fun c1 => ?_) (fun c1 => ?_)
    · have c2 : g0 < n := of_decide_eq_true c1
      refine ⟨_, rfl, _, rfl, c, _, rfl, .inr hc1, rfl, flat_ints (g0 :: gs), _, rfl, ?_⟩
      dsimp only
      rw [if_pos rfl, inV_ints]
      by_cases hm : n ∈ g0 :: gs
      · rw [decide_eq_true hm]
        rw [decide_eq_false (show ¬ ((g0 :: gs).headD 0 < n ∧ n ∉ g0 :: gs) from fun z => z.2 hm), if_neg (by decide), List.append_nil] at zz
        refine iteF ⟨s1, ?_⟩
        rw [zz]; exact e1
      · rw [decide_eq_false hm]
        rw [decide_eq_true (show ((g0 :: gs).headD 0 < n ∧ n ∉ g0 :: gs) from ⟨c2, hm⟩), if_pos rfl] at zz
        refine iteT ?_
        refine ⟨_, rfl, _, e1, lt_line (by rw [List.length_map]; omega), sm_put s1 hD, ?_⟩
        rw [zz, List.map_append]
        exact upd_same
    · have c2 : ¬ g0 < n := fun z => c1 (decide_eq_true z)
      rw [decide_eq_false (show ¬ ((g0 :: gs).headD 0 < n ∧ n ∉ g0 :: gs) from fun z => c2 z.1), if_neg (by decide), List.append_nil] at zz
      refine iteF ⟨s1, ?_⟩
      rw [zz]; exact e1
  · rintro H1 ⟨s1, e1⟩
    rw [List.length_map, List.take_length] at e1
    refine ⟨D, _, rfl, .inl ⟨SqL.of e1, fun l hl => ?_⟩⟩
    exact q _ _ (sm_new s1 hl) ⟨l, rfl, SqT.of upd_same⟩
def spGroups (K : PySem.W.Frag) : Sp := fun vs H Q _ => ∃ (u v : V) (ns p : List Int) (k : Int), vs = [u, v, .int k] ∧ T1 K H u ns ∧ X1 H v p ∧ Dl.Pat p ∧ ns.Pairwise (· < ·) ∧ ns.length ≤ 12 ∧ 0 ≤ k ∧ k < Dl.waysI ns.length p ∧
  ∀ z H' row, Same H H' → T2 K H' z row → Dl.RowOk ns p row → Q z H'
theorem ok_groups_at (T : Txt K mg) (G : Giv K mg d_groups_at) (hng : Has P w K mg base "nth_group" 4 ["names", "pattern", "k"] (spNthG K)) (hln : Has P w K mg base "later_names" 1 ["names", "group"] (spLater K)) (hwo : Has P w K mg base "without" 1 ["pattern", "length"] spWithout) : Has P w K mg base "groups_at" 5 ["names", "pattern", "k"] (spGroups K) := by
  refine has_mk (d := d_groups_at) (N := ["names", "pattern", "k", "found", "group"]) G ⟨rfl, rfl, rfl, by decide +kernel, rfl, by decide +kernel, by decide +kernel⟩ (fun _ _ _ _ _ _ us hl => match us, hl with | [_, _, _], _ => rfl) (fun vs H Q E h => by obtain ⟨u, v, ns, p, k, rfl, _⟩ := h; rfl) (fun f cdv A outer s H vs Q E hr h => ?_)
  obtain ⟨u, v, ns, p, k, rfl, ⟨a, rfl, ha⟩, ⟨c, rfl, hc⟩, hp, hn, hn12, hk0, hk, q⟩ := h
  have nd : (["names", "pattern", "k", "found", "group"] : List Str).Nodup := by decide +kernel
  have hr1 : Room 1 (A.deeper (envOfC d_groups_at.qual d_groups_at.scope s.heap.objs.size f cdv)) := hr.mono (by decide)
  refine ⟨_, pss_cons (ps_set (i := 3) nd rfl (Or.inl rfl) (pe_lst pa_nil))
    (pss_cons (ps_while PassesOwn.never (pt_cmpR (op_neD hr.units) (pv 1) (pe_tup pa_nil) (nomark _))
      (pss_cons (ps_asg (pe_has hng hr (pa_cons (pv 0) (pa_cons (pv 1) (pa_cons (pv 2) pa_nil)))) (pg_tup rfl (pgs_cons (pg_name (i := 4) nd rfl (Or.inl rfl)) (pgs_cons (pg_name (i := 2) nd rfl (Or.inl rfl)) pgs_nil))))
      (pss_cons (ps_par (i := 0) (j := 1) rfl nd rfl rfl (by decide) rfl rfl (pa_cons (pe_has hln hr1 (pa_cons (pv 0) (pa_cons (pv 4) pa_nil))) (pa_cons (pe_has hwo hr1 (pa_cons (pv 1) (pa_cons (pe_callB call_len_seq (by rfl) T.len b_len (pa_cons (pv 4) pa_nil)) pa_nil))) pa_nil)) (by rfl))
      (pss_one (ps_expr (pe_bm PySem.F.plainAttrs_list PySem.F.slot_list_append PySem.F.type_list_append mt_append (pv 3) (pa_cons (pv 4) pa_nil)))))))
    (pss_one (ps_ret (pe_callTy (crTup K rfl) (by rfl) T.tuple b_tuple (pa_cons (pv 3) pa_nil))))), ?_⟩
  refine ⟨by show 0 ≤ sizeLine; decide, fun F hF => ?_⟩
  refine while_n (fun m σ H' => Same H H' ∧ ∃ (u v : V) (ns' p' : List Int) (found : List (List Int)) (vs : List V) (k' : Int) (z : Option V), σ = [some u, some v, some (.int k'), some (.ref F), z] ∧ T1 K H' u ns' ∧ X1 H' v p' ∧ Dl.GInv ns p ns' p' found ∧ H' F = some (.lst vs) ∧ Paired (T1 K H') vs found ∧ found.length + p'.length = p.length ∧ 0 ≤ k' ∧ k' < Dl.waysI ns'.length p' ∧ m = p'.length)
    ⟨sm_new (Same.refl H) hF, .ref a, .ref c, ns, p, [], [], k, none, rfl, ⟨a, rfl, (stay_new hF).t _ _ ha⟩, ⟨c, rfl, (stay_new (K := K) hF).x _ _ hc⟩, .start hp, upd_same, .nil, by simp, hk0, hk, rfl⟩ ?_
  rintro m σ H1 ⟨s1, u, v, ns', p', found, vs, k1, z, rfl, hu, hv, I, eF, pr, fl, k10, hk1, rfl⟩
  obtain ⟨c', rfl, hc'⟩ := hv
  refine ⟨_, rfl, by show 0 ≤ sizeLine; decide, fun t ht => ?_⟩
  have st := stay_new (K := K) (o := .tup []) ht
  refine ⟨d1 p', d1 [], T1.dp ⟨c', rfl, (st.x _ _ hc').sqT⟩, .tup (SqT.of upd_same) .nil, sh1 _, sh1 _, _, rfl, ?_⟩
  rw [eqv_nil]
  have hp2 := hp.len
  by_cases hp' : p' = []
  · rw [decide_eq_true hp']
    subst hp'
    refine iteF ?_
    refine ⟨_, rfl, F, _, rfl, .inl ⟨SqL.of (upd_at eF ht), fun l hl => ?_⟩⟩
    refine q _ _ found (sm_new (sm_new s1 ht) hl) ⟨l, _, rfl, SqT.of upd_same, prT1_mono (st.trans (stay_new hl)) pr⟩ (I.done hp)
  · rw [decide_eq_false hp']
    refine iteT ⟨_, fun _ _ z => z, ?_⟩
    have nl : ns'.length ≤ 12 := Nat.le_trans I.sub.length_le hn12
    refine ⟨_, rfl, _, rfl, _, rfl, u, .ref c', ns', p', k1, rfl, hu.mono st, ⟨c', rfl, st.x _ _ hc'⟩, I.pat, hp', hn.sublist I.sub, nl, k10, hk1, fun H2 zz y g k2 s2 hz hy go k20 hk2 => ?_⟩
    obtain ⟨ag, rfl, hag⟩ := hy
    refine ⟨zz, _, rfl, hz, rfl, _, _, rfl, _, _, rfl, rfl, ?_⟩
    have st2 := sm_stay (K := K) s2
    refine ⟨_, rfl, _, rfl, u, .ref ag, ns', g, rfl, (hu.mono st).mono st2, ⟨ag, rfl, hag⟩, go.ne, by omega, fun u2 H3 s3 hu2 => ?_⟩
    have st3 := sm_stay (K := K) s3
    refine ⟨_, rfl, _, rfl, ag, _, rfl, .inr (st3.t _ _ hag), ?_⟩
    rw [List.length_map]
    refine ⟨.ref c', p', g.length, rfl, ⟨c', rfl, st3.x _ _ (st2.x _ _ (st.x _ _ hc'))⟩, I.pat.len, go.sz, fun v2 H4 s4 hv2 => ?_⟩
    have st4 := sm_stay (K := K) s4
    have eF4 : H4 F = some (.lst vs) := s4 _ _ (s3 _ _ (s2 _ _ (upd_at eF ht)))
    refine ⟨_, _, rfl, ?_⟩
    have lp := List.length_erase_of_mem go.sz
    have lp0 : 0 < p'.length := List.length_pos_of_mem go.sz
    refine ⟨_, rfl, .inl ⟨rfl, _, SqL.of eF4⟩, _, rfl, F, vs, _, rfl, rfl, eF4, lt_line (by rw [pr_len pr]; omega), ?_⟩
    have st5 := stay_lst (K := K) (o := .lst (vs ++ [.ref ag])) eF4
    have pr4 : Paired (T1 K (upd H4 F (.lst (vs ++ [.ref ag])))) (vs ++ [.ref ag]) (found ++ [g]) :=
      pr_snoc (prT1_mono ((((st.trans st2).trans st3).trans st4).trans st5) pr) ⟨ag, rfl, st5.t _ _ (st4.t _ _ (st3.t _ _ hag))⟩
    refine ⟨_, ?_, sm_put ((((sm_new s1 ht).trans s2).trans s3).trans s4) hF, u2, v2, Dl.laterL ns' g, p'.erase g.length, found ++ [g], vs ++ [.ref ag], k2, _, rfl, (hu2.mono st4).mono st5, hv2.mono st5, I.step hn go, upd_same, pr4, ?_, k20, hk2, rfl⟩
    · omega
    · rw [List.length_append]
      show found.length + 1 + _ = _
      omega
end
end Dd

/-! counts, day_ways, size -/
namespace Dd
open PySem PySem.Spec PyProof.Rows L2 Dr Dh
structure ClT (K : PySem.W.Frag) (mg : Str → Option Value) (C : Addr) : Prop where
  cl : Cls K C
  nb : NoAttr K C "born"
  nd : NoAttr K C "days"
  mgC : mg "Calendar" = some (.ref C)
def CalV (K : PySem.W.Frag) (C : Addr) (H : Hp) (v : V) (born : List Int) (days : List (List Int)) : Prop := ∃ p dx bv dv, v = .ref p ∧ H p = some (.ins C dx [("born", bv), ("days", dv)]) ∧ X1 H bv born ∧ X2 K H dv days
theorem CalV.mono {K : PySem.W.Frag} {C : Addr} {H H' : Hp} {v : V} {born : List Int} {days : List (List Int)} (s : Same H H') (h : CalV K C H v born days) : CalV K C H' v born days := by
  obtain ⟨p, dx, bv, dv, e, h1, h2, h3⟩ := h
  exact ⟨p, dx, bv, dv, e, s _ _ h1, h2.mono (sm_stay (K := K) s), h3.mono (sm_stay s)⟩
theorem range_snoc (i : Nat) (f : Nat → Int) : (List.range (i + 1)).map f = (List.range i).map f ++ [f i] := by
  rw [List.range_succ, List.map_append]; rfl
theorem getD_of {α : Type} {l : List α} {i : Nat} {x d : α} (h : l[i]? = some x) : l.getD i d = x := by
  rw [List.getD_eq_getElem?_getD, h]; rfl
section
variable {P : Program} {w : World} {K : PySem.W.Frag} {mg : Str → Option Value} {base : Heap}
def spCntOf (K : PySem.W.Frag) : Sp := fun vs H Q _ => ∃ (u v : V) (born : List Int) (days : List (List Int)), vs = [u, v] ∧ X1 H u born ∧ T2 K H v days ∧ days.length ≤ 100 ∧ ∀ l H', Same H H' → H l = none → H' l = some (.lst ((Dl.cntL born days).map V.int)) → Q (.ref l) H'
theorem ok_counts_of (T : Txt K mg) (G : Giv K mg d_counts_of) : Has P w K mg base "counts_of" 1 ["born", "days"] (spCntOf K) := by
  refine has_mk (d := d_counts_of) (N := ["born", "days", "found", "now", "day", "pattern"]) G ⟨rfl, rfl, rfl, by decide +kernel, rfl, by decide +kernel, by decide +kernel⟩ (fun _ _ _ _ _ _ us hl => match us, hl with | [_, _], _ => rfl) (fun vs H Q E h => by obtain ⟨u, v, ns, p, rfl, _⟩ := h; rfl) (fun f cdv A outer s H vs Q E hr h => ?_)
  obtain ⟨u, v, born, days, rfl, ⟨a, rfl, ha⟩, ⟨c, ds, rfl, hc, pr⟩, hl, q⟩ := h
  have nd : (["born", "days", "found", "now", "day", "pattern"] : List Str).Nodup := by decide +kernel
  refine ⟨_, pss_cons (ps_par (i := 2) (j := 3) rfl nd rfl rfl (by decide) rfl rfl (pa_cons (pe_lst pa_nil) (pa_cons pe_int pa_nil)) (by rfl))
    (pss_cons (ps_for PassesOwn.never rfl (pi_enumT (by rfl) T.enumerate (pa_cons (pv 1) pa_nil)) (pg_tup rfl (pgs_cons (pg_name (i := 4) nd rfl (Or.inl rfl)) (pgs_cons (pg_name (i := 5) nd rfl (Or.inl rfl)) pgs_nil)))
      (pss_cons (ps_set (i := 3) nd rfl (Or.inl rfl) (pe_op op_add (pv 3) (pe_bmX PySem.F.slot_tuple_count PySem.F.type_tuple_count mt_tcount (pv 0) (pa_cons (pv 4) pa_nil))))
      (pss_cons (ps_expr (pe_bm PySem.F.plainAttrs_list PySem.F.slot_list_append PySem.F.type_list_append mt_append (pv 2) (pa_cons (pv 3) pa_nil)))
      (pss_one (ps_set (i := 3) nd rfl (Or.inl rfl) (pe_op op_add (pe_op op_sub (pv 3) (pe_callB (cr_sumT rfl) (by rfl) T.sum b_sum (pa_cons (pv 5) pa_nil))) (pe_callB call_len_seq (by rfl) T.len b_len (pa_cons (pv 5) pa_nil))))))))
    (pss_one (ps_ret (pe_op op_cat (pv 2) (pe_lst (pa_cons (pe_op op_add (pv 3) (pe_bmX PySem.F.slot_tuple_count PySem.F.type_tuple_count mt_tcount (pv 0) (pa_cons (pe_callB call_len_seq (by rfl) T.len b_len (pa_cons (pv 1) pa_nil)) pa_nil))) pa_nil)))))), ?_⟩
  refine ⟨by show 0 ≤ sizeLine; decide, fun F hF => ?_⟩
  refine ⟨_, _, rfl, ?_⟩
  have lp := pr_len pr
  refine ⟨_, rfl, c, ds, rfl, (stay_new hF).t _ _ hc, for_it (walk_enumT (K := K) (a := c) (xs := ds)) (fun i σ H' => Same H H' ∧ H' F = some (.lst (((List.range i).map (Dl.alv born days)).map V.int)) ∧ ∃ z1 z2, σ = [some (.ref a), some (.ref c), some (.ref F), some (.int (Dl.nowA born days i)), z1, z2])
    ⟨sm_new (Same.refl H) hF, upd_same, none, none, rfl⟩ (fun i σ H' _ z => (sm_stay z.1).t _ _ hc) ?_ ?_⟩
  · rintro i x σ H1 H2 hi ⟨s1, e1, z1, z2, rfl⟩ ⟨t, x1, x2, rfl, ht, rfl, y1, y2⟩
    have y1 : V.int (i : Nat) = x1 := Option.some.inj y1
    subst y1
    have s2 := sm_new (o := .tup [.int (i : Nat), x2]) s1 ht
    have e2 : (upd H1 t (.tup [.int (i : Nat), x2])) F = some _ := upd_at e1 ht
    obtain ⟨p, hp, hx⟩ := pr_get pr y2
    obtain ⟨b, rfl, hb⟩ := hx.mono (sm_stay (K := K) s2)
    refine ⟨t, _, rfl, SqT.of upd_same, rfl, _, _, rfl, _, _, rfl, rfl, ?_⟩
    refine ⟨_, rfl, _, rfl, ⟨a, _, rfl, (sm_stay (K := K) s2).x _ _ ha⟩, _, rfl, a, born, _, rfl, rfl, ((sm_stay (K := K) s2).x _ _ ha).sqT, _, _, rfl, rfl, ?_⟩
    refine ⟨_, rfl, .inl ⟨rfl, _, SqL.of e2⟩, _, rfl, F, _, _, rfl, rfl, e2, lt_line (by simp; omega), ?_⟩
    have st3 := stay_lst (K := K) (o := .lst ((((List.range i).map (Dl.alv born days)).map V.int) ++ [.int (Dl.nowA born days i + (born.count (i : Int) : Nat))])) e2
    have hb3 := st3.t _ _ hb
    refine ⟨_, rfl, _, rfl, b, p, rfl, hb3, _, _, rfl, rfl, _, rfl, b, _, rfl, .inr hb3, ?_⟩
    rw [List.length_map]
    refine ⟨_, _, rfl, rfl, sm_put s2 hF, ?_, some (.int (i : Nat)), some (.ref b), ?_⟩
    · rw [range_snoc, List.map_append]
      exact upd_same
    · rw [Dl.nowA, getD_of hp]; rfl
  · rintro σ H1 ⟨s1, e1, z1, z2, rfl⟩
    have hc1 := (sm_stay (K := K) s1).t _ _ hc
    have ha1 := (sm_stay (K := K) s1).x _ _ ha
    refine ⟨_, rfl, _, rfl, _, rfl, ⟨a, _, rfl, ha1⟩, _, rfl, c, _, rfl, .inr hc1, a, born, _, rfl, rfl, ha1.sqT, _, _, rfl, rfl, by show 1 ≤ sizeLine; decide, fun l hl => ?_⟩
    refine ⟨F, l, _, _, rfl, rfl, upd_at e1 hl, upd_same, ?_, fun r hr => ?_⟩
    · show _ + 1 ≤ sizeLine
      exact le_line (by simp; omega)
    · refine q _ _ (sm_new (sm_new s1 hl) hr) (sm_none (sm_new s1 hl) hr) ?_
      have e : (Dl.cntL born days).map V.int = ((List.range ds.length).map (Dl.alv born days)).map V.int ++ [.int (Dl.nowA born days ds.length + (born.count (ds.length : Int) : Nat))] := by
        unfold Dl.cntL
        rw [range_snoc, List.map_append, lp]
        rfl
      rw [e]
      exact upd_same
def spCnt (K : PySem.W.Frag) (C : Addr) : Sp := fun vs H Q _ => ∃ (u : V) (born : List Int) (days : List (List Int)), vs = [u] ∧ CalV K C H u born days ∧ days.length ≤ 100 ∧ ∀ l H', Same H H' → H l = none → H' l = some (.lst ((Dl.cntL born days).map V.int)) → Q (.ref l) H'
theorem ok_counts {C : Addr} (T : Txt K mg) (CT : ClT K mg C) (G : Giv K mg d_counts) (hc : Has P w K mg base "counts_of" 1 ["born", "days"] (spCntOf K)) : Has P w K mg base "counts" 2 ["calendar"] (spCnt K C) := by
  refine has_mk (d := d_counts) (N := ["calendar"]) G ⟨rfl, rfl, rfl, by decide +kernel, rfl, by decide +kernel, by decide +kernel⟩ (fun _ _ _ _ _ _ us hl => match us, hl with | [_], _ => rfl) (fun vs H Q E h => by obtain ⟨u, ns, p, rfl, _⟩ := h; rfl) (fun f cdv A outer s H vs Q E hr h => ?_)
  obtain ⟨u, born, days, rfl, ⟨p, dx, bv, dv, rfl, hp, hb, hd⟩, hl, q⟩ := h
  refine ⟨_, pss_one (ps_ret (pe_has hc hr (pa_cons (pe_fld (pv 0) rfl) (pa_cons (pe_fld (pv 0) rfl) pa_nil)))), ?_⟩
  exact ⟨_, rfl, p, C, dx, _, bv, rfl, hp, CT.cl, CT.nb, rfl, _, rfl, p, C, dx, _, dv, rfl, hp, CT.cl, CT.nd, rfl, bv, dv, born, days, rfl, hb, hd.t2, hl, q⟩
def spDayWays (K : PySem.W.Frag) (C : Addr) : Sp := fun vs H Q _ => ∃ (u : V) (born : List Int) (days : List (List Int)), vs = [u] ∧ CalV K C H u born days ∧ Dl.CalOk born days ∧ ∀ z H', Same H H' → T1 K H' z (Dl.wayL born days) → Q z H'
theorem ok_day_ways {C : Addr} (T : Txt K mg) (CT : ClT K mg C) (G : Giv K mg d_day_ways) (hc : Has P w K mg base "counts" 2 ["calendar"] (spCnt K C)) (hw : Has P w K mg base "ways_of" 1 ["k", "pattern"] (spWays K)) : Has P w K mg base "day_ways" 3 ["calendar"] (spDayWays K C) := by
  refine has_mk (d := d_day_ways) (N := ["calendar", "many", "pattern"]) G ⟨rfl, rfl, rfl, by decide +kernel, rfl, by decide +kernel, by decide +kernel⟩ (fun _ _ _ _ _ _ us hl => match us, hl with | [_], _ => rfl) (fun vs H Q E h => by obtain ⟨u, ns, p, rfl, _⟩ := h; rfl) (fun f cdv A outer s H vs Q E hr h => ?_)
  obtain ⟨u, born, days, rfl, ⟨p, dx, bv, dv, rfl, hp, hb, c, ds, rfl, hd, pr⟩, ok, q⟩ := h
  have nd : (["calendar", "many", "pattern"] : List Str).Nodup := by decide +kernel
  have hr1 : Room 1 (A.deeper (envOfC d_day_ways.qual d_day_ways.scope s.heap.objs.size f cdv)) := hr.mono (by decide)
  refine ⟨_, pss_one (ps_ret (pe_callTy (crTup K rfl) (by rfl) T.tuple b_tuple (pa_cons (pe_lc (own := [("many", 1), ("pattern", 2)]) (g := gTup K 2 (gCons (gName 1) (gCons (gName 2) gNil))) (tt := tYes) rfl nd (pi_zipM (by rfl) T.zip (pa_cons (pe_has hc hr (pa_cons (pv 0) pa_nil)) (pa_cons (pe_fld (pv 0) rfl) pa_nil)))
    (blkOk_by (N := ["calendar", "many", "pattern"]) (sc := d_day_ways.scope) (by decide +kernel))
    (fun _ _ _ _ _ => pg_tup rfl (pgs_cons (pg_name (i := 1) nd rfl (Or.inl rfl)) (pgs_cons (pg_name (i := 2) nd rfl (Or.inl rfl)) pgs_nil))) (fun _ _ _ _ _ => pts_nil) (fun _ _ _ _ _ => pe_has hw hr1 (pa_cons (pv 1) (pa_cons (pv 2) pa_nil)))) pa_nil))), ?_⟩
  refine ⟨_, rfl, .ref p, born, days, rfl, ⟨p, dx, bv, .ref c, rfl, hp, hb, c, ds, rfl, hd, pr⟩, by have := ok.dl; omega, fun L H1 s1 hL0 hL => ?_⟩
  have hd1 := (sm_stay (K := K) s1).t _ _ hd
  have lp := pr_len pr
  refine ⟨_, rfl, p, C, dx, _, _, rfl, s1 _ _ hp, CT.cl, CT.nd, rfl, L, c, _, ds, rfl, SqL.of hL, hd1, fun D hD => ?_⟩
  have hD0 : H D = none := sm_none s1 hD
  have len : ds.length = min ((Dl.cntL born days).map V.int).length ds.length := by
    rw [List.length_map]; unfold Dl.cntL; rw [List.length_map, List.length_range, lp]; omega
  refine lc_it (walk_zipM (K := K) (a := L) (b := c) (xs := (Dl.cntL born days).map V.int) (ys := ds) len) (fun i H' => Same H1 H' ∧ H' D = some (.lst (((List.range i).map fun i => Dl.waysI (Dl.alv born days i) (days.getD i [])).map V.int)))
    ⟨sm_new (Same.refl H1) hD, upd_same⟩ (fun i H' _ z => ⟨SqL.of (z.1 _ _ hL), (sm_stay z.1).t _ _ hd1⟩) ?_ ?_
  · rintro i x H2 H3 hi ⟨s2, e2⟩ ⟨t, x1, x2, rfl, ht, rfl, y1, y2⟩
    have hid : i < days.length := by omega
    have y1 : ((Dl.cntL born days).map V.int)[i]? = some x1 := y1
    have e1 : x1 = .int (Dl.alv born days i) := by
      unfold Dl.cntL at y1
      rw [List.map_map, List.getElem?_map, List.getElem?_range (by omega)] at y1
      exact (Option.some.inj y1).symm
    subst e1
    obtain ⟨pt, hpt, hx⟩ := pr_get pr y2
    have s3 := sm_new (o := .tup [.int (Dl.alv born days i), x2]) s2 ht
    have s03 := s1.trans s3
    have k12 := ok.alv12 i
    have k0 := Dl.alv_nn ok hid
    refine ⟨t, _, rfl, SqT.of upd_same, rfl, _, _, rfl, _, _, rfl, rfl, rfl, lcY ?_⟩
    refine ⟨_, rfl, _, rfl, _, x2, pt, rfl, hx.mono (sm_stay (K := K) s03), (ok.pat pt (List.mem_of_getElem? hpt)).1, k0, k12, fun H4 s4 => ?_⟩
    refine ⟨_, s4 _ _ (upd_at e2 ht), lt_line (by have := ok.dl; simp; omega), sm_put (s3.trans s4) hD, ?_⟩
    rw [range_snoc, List.map_append, getD_of hpt]
    exact upd_same
  · rintro H2 ⟨s2, e2⟩
    refine ⟨D, _, rfl, .inl ⟨SqL.of e2, fun l hl => ?_⟩⟩
    refine q _ _ (sm_new (s1.trans s2) hl) ⟨l, rfl, ?_⟩
    have e : (Dl.wayL born days).map V.int = ((List.range ds.length).map fun i => Dl.waysI (Dl.alv born days i) (days.getD i [])).map V.int := by
      unfold Dl.wayL
      rw [lp]
    rw [e]
    exact SqT.of upd_same
end
end Dd

/-! size, born_on, names_behind -/
namespace Dd
open PySem PySem.Spec PyProof.Rows L2 Dr Dh
/-- a walk by a word, whatever a turn does -/
theorem wk {J : It} {n : Nat} {G : Hp → Prop} {Y : Nat → Hp → V → Hp → Prop} (w : Walk J n G Y) {S : (Hp → Prop) → V → Hp → Prop} {Qd : Hp → Prop} {H1 : Hp} (Pv : Nat → Hp → Prop) (h0 : Pv 0 H1) (hG : ∀ i H, i ≤ n → Pv i H → G H)
    (hs : ∀ i x H H', i < n → Pv i H → Y i H x H' → S (Pv (i + 1)) x H') (hd : ∀ H, Pv n H → Qd H) :
    ∃ W : Nat → Nat → Hp → Prop, (∃ m, W 0 m H1) ∧ ∀ i m H, W i m H → (J.stop i H ∧ Qd H) ∨ (J.go i H ∧ ∃ Nx : Hp → Prop, (∀ H', Nx H' → ∃ m', m' < m ∧ W (i + 1) m' H') ∧ ∀ x H', J.yld i H x H' → S Nx x H') := by
  refine ⟨fun i m H => m = n - i ∧ i ≤ n ∧ Pv i H, ⟨n, by simp, Nat.zero_le _, h0⟩, ?_⟩
  rintro i m H ⟨rfl, hi, p⟩
  have q := hG i H hi p
  by_cases hlt : i < n
  · exact .inr ⟨w.goes i H hlt q, Pv (i + 1), fun H' p' => ⟨n - (i + 1), by omega, rfl, hlt, p'⟩, fun x H' y => hs i x H H' hlt p (w.yields i H x H' hlt q y)⟩
  · have e : i = n := by omega
    subst e
    exact .inl ⟨w.stops H q, hd H p⟩
theorem slP {X : Cx} (K : PySem.W.Frag) (h : X.K = K) : SlR X (rSlT K) := h ▸ sl_tup
theorem filt_snocA {α : Type} {q : α → Bool} {l : List α} {i : Nat} {x : α} (h : l[i]? = some x) : (l.take (i + 1)).filter q = (l.take i).filter q ++ (if q x = true then [x] else []) := by
  rw [take_snoc h, List.filter_append]
  congr 1
  by_cases h : q x = true <;> simp [h]
theorem zipIdx_at {α : Type} {l : List α} {i : Nat} {x : α} (h : l[i]? = some x) : l.zipIdx[i]? = some (x, i) := by
  rw [List.getElem?_zipIdx, h]; simp
section
variable {P : Program} {w : World} {K : PySem.W.Frag} {mg : Str → Option Value} {base : Heap}
def spSize (K : PySem.W.Frag) (C : Addr) : Sp := fun vs H Q _ => ∃ (u : V) (born : List Int) (days : List (List Int)), vs = [u] ∧ CalV K C H u born days ∧ Dl.CalOk born days ∧ ∀ H', Same H H' → Q (.int (Dl.sizeI born days)) H'
theorem bd_size {C : Addr} (T : Txt K mg) (hw : Has P w K mg base "day_ways" 3 ["calendar"] (spDayWays K C)) : Body P w K mg base d_size 4 ["calendar"] (spSize K C) := by
  refine body_mk (d := d_size) (N := ["calendar", "found", "many"]) ⟨rfl, rfl, rfl, by decide +kernel, rfl, by decide +kernel, by decide +kernel⟩ (fun vs H Q E h => by obtain ⟨u, ns, p, rfl, _⟩ := h; rfl) (fun f cdv A outer s H vs Q E hr h => ?_)
  obtain ⟨u, born, days, rfl, hcal, ok, q⟩ := h
  have nd : (["calendar", "found", "many"] : List Str).Nodup := by decide +kernel
  refine ⟨_, pss_cons (ps_set (i := 1) nd rfl (Or.inl rfl) pe_int)
    (pss_cons (ps_for PassesOwn.never rfl (pi_tup (pe_has hw hr (pa_cons (pv 0) pa_nil))) (pg_name (i := 2) nd rfl (Or.inl rfl))
      (pss_one (ps_set (i := 1) nd rfl (Or.inl rfl) (pe_op op_mulW (pv 1) (pv 2)))))
    (pss_one (ps_ret (pv 1)))), ?_⟩
  refine ⟨_, rfl, u, born, days, rfl, hcal, ok, fun z H1 s1 hz => ?_⟩
  obtain ⟨a, rfl, ha⟩ := hz
  have wl : (Dl.wayL born days).length = days.length := by unfold Dl.wayL; simp
  refine ⟨a, rfl, ⟨_, ha⟩, for_it (walk_tup (K := K) (a := a) (xs := (Dl.wayL born days).map V.int)) (fun i σ H' => H' = H1 ∧ ∃ z, σ = [some u, some (.int (((Dl.wayL born days).take i).foldl (· * ·) 1)), z])
    ⟨rfl, none, rfl⟩ (fun i σ H' _ h => by rw [h.1]; exact ha) ?_ ?_⟩
  · rintro i x σ H2 H3 hi ⟨rfl, z, rfl⟩ ⟨rfl, hx⟩
    obtain ⟨n, hn, rfl⟩ := int_get hx
    have bd := Dl.wayL_bd ok
    have pb := Dl.prod_bd ((Dl.wayL born days).take i) 1 1 (fun x hx => bd x (List.mem_of_mem_take hx)) (by decide) (by decide)
    have nb := bd n (List.mem_of_getElem? hn)
    have ll : ((Dl.wayL born days).take i).length ≤ 11 := by rw [List.length_take]; have := ok.dl; omega
    refine ⟨_, rfl, _, rfl, _, _, rfl, rfl, wide_mul (a := 1 + 29 * ((Dl.wayL born days).take i).length) (b := 29) pb.2 (by omega) (by omega) (by decide) (by omega), rfl, some (.int n), ?_⟩
    rw [foldl_snoc hn]; rfl
  · rintro σ H2 ⟨rfl, z, rfl⟩
    rw [List.length_map, List.take_length]
    exact ⟨_, rfl, q _ s1⟩
def spBornOn (K : PySem.W.Frag) (C : Addr) : Sp := fun vs H Q _ => ∃ (u : V) (born : List Int) (days : List (List Int)) (d : Int), vs = [u, .int d] ∧ CalV K C H u born days ∧ born.length ≤ 100 ∧ ∀ z H', Same H H' → T1 K H' z (Dl.newl born d) → Q z H'
theorem ok_born_on {C : Addr} (T : Txt K mg) (CT : ClT K mg C) (G : Giv K mg d_born_on) : Has P w K mg base "born_on" 1 ["calendar", "d"] (spBornOn K C) := by
  refine has_mk (d := d_born_on) (N := ["calendar", "d", "leaf", "birth"]) G ⟨rfl, rfl, rfl, by decide +kernel, rfl, by decide +kernel, by decide +kernel⟩ (fun _ _ _ _ _ _ us hl => match us, hl with | [_, _], _ => rfl) (fun vs H Q E h => by obtain ⟨u, ns, p, d, rfl, _⟩ := h; rfl) (fun f cdv A outer s H vs Q E hr h => ?_)
  obtain ⟨u, born, days, d, rfl, ⟨p, dx, bv, dv, rfl, hp, ⟨b, rfl, hb⟩, hd⟩, hl, q⟩ := h
  have nd : (["calendar", "d", "leaf", "birth"] : List Str).Nodup := by decide +kernel
  refine ⟨_, pss_one (ps_ret (pe_callTy (crTup K rfl) (by rfl) T.tuple b_tuple (pa_cons (pe_lc (own := [("leaf", 2), ("birth", 3)]) (g := gTup K 2 (gCons (gName 2) (gCons (gName 3) gNil))) rfl nd (pi_enumT (by rfl) T.enumerate (pa_cons (pe_fld (pv 0) rfl) pa_nil))
    (blkOk_by (N := ["calendar", "d", "leaf", "birth"]) (sc := d_born_on.scope) (by decide +kernel))
    (fun _ _ _ _ _ => pg_tup rfl (pgs_cons (pg_name (i := 2) nd rfl (Or.inl rfl)) (pgs_cons (pg_name (i := 3) nd rfl (Or.inl rfl)) pgs_nil))) (fun _ _ _ _ _ => pts_one (pt_cmpR op_eq (pv 3) (pv 1) (nomark _))) (fun _ _ _ _ _ => pv 2)) pa_nil))), ?_⟩
  refine ⟨_, rfl, p, C, dx, _, _, rfl, hp, CT.cl, CT.nb, rfl, b, _, rfl, hb.sqT, fun D hD => ?_⟩
  refine lc_it (walk_enumT (K := K) (a := b) (xs := born.map V.int)) (fun i H' => Same H H' ∧ H' D = some (.lst ((((born.zipIdx.take i).filter fun p => decide (p.1 = d)).map fun p => ((p.2 : Nat) : Int)).map V.int)))
    ⟨sm_new (Same.refl H) hD, upd_same⟩ (fun i H' _ z => ((sm_stay (K := K) z.1).x _ _ hb).sqT) ?_ ?_
  · rintro i x H1 H2 hi ⟨s1, e1⟩ ⟨t, x1, x2, rfl, ht, rfl, y1, y2⟩
    have y1 : V.int (i : Nat) = x1 := Option.some.inj y1
    subst y1
    obtain ⟨n, hn, rfl⟩ := int_get y2
    have zz := filt_snocA (q := fun p : Int × Nat => decide (p.1 = d)) (zipIdx_at hn)
    have il : i < born.length := (List.getElem?_eq_some_iff.mp hn).1
    have ll : ((born.zipIdx.take i).filter fun p => decide (p.1 = d)).length ≤ 100 := Nat.le_trans (List.length_filter_le _ _) (by rw [List.length_take]; omega)
    have s2 := sm_new (o := .tup [.int (i : Nat), .int n]) s1 ht
    refine ⟨t, _, rfl, SqT.of upd_same, rfl, _, _, rfl, _, _, rfl, rfl, rfl, ?_⟩
    refine ⟨_, rfl, _, rfl, rfl, _, rfl, ?_⟩
    by_cases c : n = d
    · subst c
      rw [decide_eq_true (show n = n from rfl), if_pos rfl] at zz
      rw [decide_eq_true rfl]
      refine iteT ?_
      refine ⟨_, rfl, _, upd_at e1 ht, lt_line (by rw [List.length_map, List.length_map]; omega), sm_put s2 hD, ?_⟩
      rw [zz, List.map_append, List.map_append]
      exact upd_same
    · rw [decide_eq_false c, if_neg (by decide), List.append_nil] at zz
      rw [decide_eq_false (fun e => c (by injection e))]
      refine iteF ⟨s2, ?_⟩
      rw [zz]
      exact upd_at e1 ht
  · rintro H1 ⟨s1, e1⟩
    rw [List.length_map, List.take_of_length_le (by simp)] at e1
    refine ⟨D, _, rfl, .inl ⟨SqL.of e1, fun l hl => ?_⟩⟩
    exact q _ _ (sm_new s1 hl) ⟨l, rfl, SqT.of upd_same⟩
end
end Dd

/-! names_behind, tree_at, nth_tree -/
namespace Dd
open PySem PySem.Spec PyProof.Rows L2 Dr Dh
theorem lost_snoc {row : List (List Int)} {i : Nat} {g : List Int} (h : row[i]? = some g) : Dl.lost (row.take (i + 1)) = Dl.lost (row.take i) ++ g.tail := by
  unfold Dl.lost
  rw [take_snoc h, List.flatMap_append]
  simp
theorem lost_len (row : List (List Int)) : (Dl.lost row).length ≤ row.flatten.length := by
  induction row with
  | nil => simp [Dl.lost]
  | cons g row ih =>
    unfold Dl.lost at *
    rw [List.flatMap_cons, List.flatten_cons, List.length_append, List.length_append]
    have : g.tail.length ≤ g.length := by rw [List.length_tail]; omega
    omega
theorem lost_pre {row : List (List Int)} {i j : Nat} {g : List Int} (h : row[i]? = some g) : (Dl.lost (row.take i) ++ g.tail.take j).length ≤ (Dl.lost row).length := by
  have e : row = row.take (i + 1) ++ row.drop (i + 1) := (List.take_append_drop _ _).symm
  have e2 : Dl.lost row = Dl.lost (row.take (i + 1)) ++ Dl.lost (row.drop (i + 1)) := by
    conv => lhs; rw [e]
    unfold Dl.lost
    rw [List.flatMap_append]
  rw [e2, lost_snoc h, List.length_append, List.length_append, List.length_append, List.length_take]
  omega
section
variable {P : Program} {w : World} {K : PySem.W.Frag} {mg : Str → Option Value} {base : Heap}
def spNamesB (K : PySem.W.Frag) : Sp := fun vs H Q _ => ∃ (u v : V) (ns : List Int) (row : List (List Int)), vs = [u, v] ∧ T1 K H u ns ∧ T2 K H v row ∧ (∀ g ∈ row, g ≠ []) ∧ ns.length ≤ 100 ∧ row.flatten.length ≤ 100 ∧ ∀ z H', Same H H' → T1 K H' z (Dl.nbh ns row) → Q z H'
theorem ok_names_behind (T : Txt K mg) (G : Giv K mg d_names_behind) : Has P w K mg base "names_behind" 1 ["names", "row"] (spNamesB K) := by
  refine has_mk (d := d_names_behind) (N := ["names", "row", "lost", "group", "name"]) G ⟨rfl, rfl, rfl, by decide +kernel, rfl, by decide +kernel, by decide +kernel⟩ (fun _ _ _ _ _ _ us hl => match us, hl with | [_, _], _ => rfl) (fun vs H Q E h => by obtain ⟨u, v, ns, p, rfl, _⟩ := h; rfl) (fun f cdv A outer s H vs Q E hr h => ?_)
  obtain ⟨u, v, ns, row, rfl, ⟨a, rfl, ha⟩, ⟨c, gs, rfl, hc, pr⟩, hne, hl, hfl, q⟩ := h
  have nd : (["names", "row", "lost", "group", "name"] : List Str).Nodup := by decide +kernel
  have lo := lost_len row
  refine ⟨_, pss_cons (ps_set (i := 2) nd rfl (Or.inr rfl) (pe_lc2 (own := [("group", 3), ("name", 4)]) (vs1 := [4]) (g := gName 3) (tt := tYes) (g1 := gName 4) (tt1 := tYes) rfl nd (pi_tup (pv 1))
      (blkOk_by (N := ["names", "row", "lost", "group", "name"]) (sc := d_names_behind.scope) (by decide +kernel)) (by decide)
      (fun _ _ _ _ _ => pg_name (i := 3) nd rfl (Or.inl rfl)) (fun _ _ _ _ _ => pts_nil)
      (fun _ _ _ _ _ => piTup K rfl (pe_slice (slP K rfl) (pv 3) (po_some pe_int) po_none))
      (fun _ _ _ _ _ => pg_name (i := 4) nd rfl (Or.inl rfl)) (fun _ _ _ _ _ => pts_nil) (fun _ _ _ _ _ => pv 4)))
    (pss_one (ps_ret (pe_callTy (crTup K rfl) (by rfl) T.tuple b_tuple (pa_cons (pe_lc (own := [("name", 4)]) (g := gName 4) rfl nd (pi_tup (pv 0))
      (blkOk_by (N := ["names", "row", "lost", "group", "name"]) (sc := d_names_behind.scope) (by decide +kernel))
      (fun _ _ _ _ _ => pg_name (i := 4) nd rfl (Or.inl rfl)) (fun _ _ _ _ _ => pts_one (pt_cmpR (opNotIn K rfl) (pv 4) (pv 2) (by rfl))) (fun _ _ _ _ _ => pv 4)) pa_nil)))), ?_⟩
  have lp := pr_len pr
  refine ⟨_, rfl, c, rfl, ⟨_, hc⟩, fun D hD => ?_⟩
  refine wk (walk_tup (K := K) (a := c) (xs := gs)) (fun i H' => Same H H' ∧ H' D = some (.lst ((Dl.lost (row.take i)).map V.int)))
    ⟨sm_new (Same.refl H) hD, upd_same⟩ (fun i H' _ z => (sm_stay z.1).t _ _ hc) ?_ ?_
  · rintro i x H1 H2 hi ⟨s1, e1⟩ ⟨rfl, hx⟩
    obtain ⟨g, hg, y⟩ := pr_get pr hx
    obtain ⟨b, rfl, hb⟩ := y.mono (sm_stay (K := K) s1)
    have gne := hne g (List.mem_of_getElem? hg)
    have g0 : 0 < g.length := List.length_pos_iff.mpr gne
    refine ⟨rfl, lcY ?_⟩
    refine ⟨_, rfl, _, rfl, b, _, rfl, hb, cut_prop (by rw [List.length_map]; omega) (by decide), fun t ht => ?_⟩
    rw [cut_from (j := 1) (i := 1) rfl, List.drop_one]
    have s2 := sm_new (o := .tup (g.tail.map V.int)) s1 ht
    refine ⟨t, rfl, ⟨_, SqT.of upd_same⟩, ?_⟩
    refine wk (walk_tup (K := K) (a := t) (xs := g.tail.map V.int)) (fun j H' => Same H H' ∧ SqT K H' t (g.tail.map V.int) ∧ H' D = some (.lst ((Dl.lost (row.take i) ++ g.tail.take j).map V.int)))
      ⟨s2, SqT.of upd_same, by simpa using upd_at e1 ht⟩ (fun i H' _ z => z.2.1) ?_ ?_
    · rintro j x H3 H4 hj ⟨s3, h3, e3⟩ ⟨rfl, hx⟩
      obtain ⟨n, hn, rfl⟩ := int_get hx
      have lpre := lost_pre (j := j) hg
      refine ⟨rfl, lcY ?_⟩
      refine ⟨_, rfl, _, e3, lt_line (by rw [List.length_map]; omega), sm_put s3 hD, (stay_lst e3).t _ _ h3, ?_⟩
      rw [take_snoc hn, ← List.append_assoc, List.map_append (l₁ := Dl.lost (row.take i) ++ g.tail.take j)]
      exact upd_same
    · rintro H3 ⟨s3, h3, e3⟩
      rw [List.length_map, List.take_length, ← lost_snoc hg] at e3
      exact ⟨s3, e3⟩
  · rintro H1 ⟨s1, e1⟩
    rw [lp, List.take_length] at e1
    have ha1 := (sm_stay (K := K) s1).t _ _ ha
    refine ⟨_, rfl, a, rfl, ⟨_, ha1⟩, fun D2 hD2 => ?_⟩
    refine lc_tup (K := K) (a := a) (xs := ns.map V.int) (fun i H' => Same H1 H' ∧ H' D2 = some (.lst (((ns.take i).filter fun x => decide (x ∉ Dl.lost row)).map V.int)))
      ⟨sm_new (Same.refl H1) hD2, upd_same⟩ (fun i H' _ z => (sm_stay z.1).t _ _ ha1) ?_ ?_
    · rintro i x H2 hi ⟨s2, e2⟩
      obtain ⟨n, hn, rfl⟩ := int_get hi
      have il : i < ns.length := (List.getElem?_eq_some_iff.mp hn).1
      have zz := filt_snoc (q := fun x => decide (x ∉ Dl.lost row)) hn
      have ll : ((ns.take i).filter fun x => decide (x ∉ Dl.lost row)).length ≤ 100 := Nat.le_trans (List.length_filter_le _ _) (by rw [List.length_take]; omega)
      refine ⟨rfl, ?_⟩
      refine ⟨_, rfl, _, rfl, D, _, rfl, .inl (SqL.of (s2 _ _ e1)), rfl, flat_ints _, _, rfl, ?_⟩
      dsimp only
      rw [if_pos rfl, inV_ints]
      by_cases hm : n ∈ Dl.lost row
      · rw [decide_eq_true hm]
        rw [decide_eq_false (show ¬ (n ∉ Dl.lost row) from fun z => z hm), if_neg (by decide), List.append_nil] at zz
        refine iteF ⟨s2, ?_⟩
        rw [zz]; exact e2
      · rw [decide_eq_false hm]
        rw [decide_eq_true hm, if_pos rfl] at zz
        refine iteT ?_
        refine ⟨_, rfl, _, e2, lt_line (by rw [List.length_map]; omega), sm_put s2 hD2, ?_⟩
        rw [zz, List.map_append]
        exact upd_same
    · rintro H2 ⟨s2, e2⟩
      rw [List.length_map, List.take_length] at e2
      refine ⟨D2, _, rfl, .inl ⟨SqL.of e2, fun l hl => ?_⟩⟩
      exact q _ _ (sm_new (s1.trans s2) hl) ⟨l, rfl, SqT.of upd_same⟩
end
end Dd

/-! tree_at, nth_tree -/
namespace Dd
open PySem PySem.Spec PyProof.Rows L2 Dr Dh
theorem T1.same {K : PySem.W.Frag} {H H' : Hp} {v : V} {ns : List Int} (s : Same H H') (h : T1 K H v ns) : T1 K H' v ns := h.mono (sm_stay s)
theorem T2.same {K : PySem.W.Frag} {H H' : Hp} {v : V} {ns : List (List Int)} (s : Same H H') (h : T2 K H v ns) : T2 K H' v ns := h.mono (sm_stay s)
theorem T3.same {K : PySem.W.Frag} {H H' : Hp} {v : V} {ns : List (List (List Int))} (s : Same H H') (h : T3 K H v ns) : T3 K H' v ns := h.mono (sm_stay s)
theorem X1.same {H H' : Hp} {v : V} {ns : List Int} (s : Same H H') (h : X1 H v ns) : X1 H' v ns := by
  obtain ⟨a, e, o, h, d⟩ := h
  exact ⟨a, e, o, s _ _ h, d⟩
/-- t + u of ints' tuples -/
def rCatI (K : PySem.W.Frag) : R2 := fun x y H Q => ∃ ns ms, T1 K H x ns ∧ T1 K H y ms ∧ ns.length + ms.length ≤ 1000 ∧ ∀ z H', Same H H' → T1 K H' z (ns ++ ms) → Q z H'
theorem op_catI {X : Cx} : OpR X (binaryOp .Add) (rCatI X.K) := by
  intro pins s σ H x y v u Q I rx ry h
  obtain ⟨ns, ms, ⟨a, rfl, ha⟩, ⟨b, rfl, hb⟩, hl, q⟩ := h
  refine op_catA pins s σ H _ _ v u Q I rx ry ⟨a, b, _, _, rfl, rfl, ha, hb, by rw [List.length_map, List.length_map]; exact le_line hl, fun e => ?_, fun _ e => ?_, fun _ _ p hp => ?_⟩
  · have e' : ns = [] := by simpa using e
    exact q _ _ (Same.refl H) ⟨b, rfl, by rw [e']; exact hb⟩
  · have e' : ms = [] := by simpa using e
    exact q _ _ (Same.refl H) ⟨a, rfl, by rw [e', List.append_nil]; exact ha⟩
  · refine q _ _ (sm_new (Same.refl H) hp) ⟨p, rfl, ?_⟩
    rw [List.map_append]
    exact SqT.of upd_same
theorem hasK_rev {P : Program} {w : World} {K : PySem.W.Frag} {mg : Str → Option Value} {base : Heap} {d : He.DefD} {ps ks : List Str} {k : Nat} {sp : Sp} (G : Giv K mg d) (B : Body P w K mg base d k ps sp) (hk : ks.length = ps.length)
    (hb : ∀ (kV doc pm : Value) (an : Option Addr) (cdv ct : Value) (ws : List Value), ws.length = ks.length → bindArgs (PySem.W.fnOf d.name d.qual d.params d.body d.scope .none kV doc pm an cdv ct) ⟨[], ks.zip ws⟩ = pure (ps.zip ws.reverse)) : HasK P w K mg base d.name k ps ks (fun zs => zs.reverse) sp :=
  hasK_of G B (fun {α} l => List.reverse l) (fun ws h => by rw [hk, ← h, List.length_reverse]) hb fun {zs ws} r => vals_rev r
where vals_rev : ∀ {zs : List V} {ws : List Value}, Vals zs ws → Vals zs.reverse ws.reverse
  | _, _, .nil => .nil
  | _, _, .cons r t => by
    rw [List.reverse_cons, List.reverse_cons]
    exact (vals_rev t).append (.cons r .nil)
section
variable {P : Program} {w : World} {K : PySem.W.Frag} {mg : Str → Option Value} {base : Heap}
def spTreeAt (K : PySem.W.Frag) (C : Addr) : Sp := fun vs H Q _ => ∃ (u : V) (born : List Int) (days : List (List Int)) (k : Int), vs = [u, .int k] ∧ CalV K C H u born days ∧ Dl.CalOk born days ∧ ∀ z H' tree, Same H H' → T3 K H' z tree → Dl.TreeOk born days tree → Q z H'
theorem ok_tree_at {C : Addr} (T : Txt K mg) (CT : ClT K mg C) (G : Giv K mg d_tree_at) (hdw : Has P w K mg base "day_ways" 3 ["calendar"] (spDayWays K C)) (hbo : Has P w K mg base "born_on" 1 ["calendar", "d"] (spBornOn K C))
    (hga : Has P w K mg base "groups_at" 5 ["names", "pattern", "k"] (spGroups K)) (hnb : Has P w K mg base "names_behind" 1 ["names", "row"] (spNamesB K)) : Has P w K mg base "tree_at" 6 ["calendar", "k"] (spTreeAt K C) := by
  refine has_mk (d := d_tree_at) (N := ["calendar", "k", "figures", "many", "names", "tree", "d", "figure"]) G ⟨rfl, rfl, rfl, by decide +kernel, rfl, by decide +kernel, by decide +kernel⟩ (fun _ _ _ _ _ _ us hl => match us, hl with | [_, _], _ => rfl) (fun vs H Q E h => by obtain ⟨u, v, ns, p, rfl, _⟩ := h; rfl) (fun f cdv A outer s H vs Q E hr h => ?_)
  obtain ⟨u, born, days, k, rfl, hcal, ok, q⟩ := h
  have nd : (["calendar", "k", "figures", "many", "names", "tree", "d", "figure"] : List Str).Nodup := by decide +kernel
  have hr1 : Room 1 (A.deeper (envOfC d_tree_at.qual d_tree_at.scope s.heap.objs.size f cdv)) := hr.mono (by decide)
  have hr3 : Room 3 (A.deeper (envOfC d_tree_at.qual d_tree_at.scope s.heap.objs.size f cdv)) := hr.mono (by decide)
  refine ⟨_, pss_cons (ps_set (i := 2) nd rfl (Or.inl rfl) (pe_lst pa_nil))
    (pss_cons (ps_for PassesOwn.never rfl (pi_tup (pe_revT (pe_has hdw hr3 (pa_cons (pv 0) pa_nil)))) (pg_name (i := 3) nd rfl (Or.inl rfl))
      (pss_cons (ps_expr (pe_bm PySem.F.plainAttrs_list PySem.F.slot_list_append PySem.F.type_list_append mt_append (pv 2) (pa_cons (pe_op op_modN (pv 1) (pv 3)) pa_nil)))
      (pss_one (ps_set (i := 1) nd rfl (Or.inl rfl) (pe_op op_fdivW (pv 1) (pv 3))))))
    (pss_cons (ps_par (i := 4) (j := 5) rfl nd rfl rfl (by decide) rfl rfl (pa_cons (pe_tup pa_nil) (pa_cons (pe_lst pa_nil) pa_nil)) (by rfl))
    (pss_cons (ps_for PassesOwn.never rfl (pi_enum (by rfl) T.enumerate (pa_cons (pe_revL (pv 2)) pa_nil)) (pg_tup rfl (pgs_cons (pg_name (i := 6) nd rfl (Or.inl rfl)) (pgs_cons (pg_name (i := 7) nd rfl (Or.inl rfl)) pgs_nil)))
      (pss_cons (ps_set (i := 4) nd rfl (Or.inl rfl) (pe_callTy (crTup K rfl) (by rfl) T.tuple b_tuple (pa_cons (pe_callB cr_sortedTI (by rfl) T.sorted b_sorted (pa_cons (pe_op op_catI (pv 4) (pe_has hbo hr1 (pa_cons (pv 0) (pa_cons (pv 6) pa_nil)))) pa_nil)) pa_nil)))
      (pss_cons (ps_expr (pe_bm PySem.F.plainAttrs_list PySem.F.slot_list_append PySem.F.type_list_append mt_append (pv 5) (pa_cons (pe_has hga hr (pa_cons (pv 4) (pa_cons (pe_ix ix_tup (pe_fld (pv 0) rfl) (pv 6) (fun _ _ => rfl)) (pa_cons (pv 7) pa_nil)))) pa_nil)))
      (pss_one (ps_set (i := 4) nd rfl (Or.inl rfl) (pe_has hnb hr1 (pa_cons (pv 4) (pa_cons (pe_ix ix_list (pv 5) (pe_un un_neg pe_int) (fun _ _ => rfl)) pa_nil))))))))
    (pss_one (ps_ret (pe_callTy (crTup K rfl) (by rfl) T.tuple b_tuple (pa_cons (pv 5) pa_nil))))))), ?_⟩
  have wl : (Dl.wayL born days).length = days.length := by unfold Dl.wayL; simp
  have dl := ok.dl
  refine ⟨by show 0 ≤ sizeLine; decide, fun F hF => ?_⟩
  have s0 := sm_new (o := .lst []) (Same.refl H) hF
  refine ⟨_, rfl, u, born, days, rfl, hcal.mono s0, ok, fun z H1 s1 hz => ?_⟩
  obtain ⟨a, rfl, ha⟩ := hz
  have s01 := s0.trans s1
  have eF1 : H1 F = some (.lst []) := s1 _ _ upd_same
  refine ⟨a, _, rfl, ha, fun r hr0 => ?_⟩
  rw [← List.map_reverse]
  have s2 := sm_new (o := .tup ((Dl.wayL born days).reverse.map V.int)) s01 hr0
  refine ⟨r, rfl, ⟨_, SqT.of upd_same⟩, for_it (walk_tup (K := K) (a := r) (xs := (Dl.wayL born days).reverse.map V.int)) (fun i σ H' => Same H H' ∧ SqT K H' r ((Dl.wayL born days).reverse.map V.int) ∧ ∃ fs k z, σ = [some u, some (.int k), some (.ref F), z, none, none, none, none] ∧ H' F = some (.lst (fs.map V.int)) ∧ Paired (fun f m : Int => 0 ≤ f ∧ f < m) fs ((Dl.wayL born days).reverse.take i))
    ⟨s2, SqT.of upd_same, [], k, none, rfl, upd_at eF1 hr0, .nil⟩ (fun i σ H' _ h => h.2.1) ?_ ?_⟩
  · rintro i x σ H2 H3 hi ⟨s3, h3, fs, k1, z, rfl, e3, pr⟩ ⟨rfl, hx⟩
    obtain ⟨n, hn, rfl⟩ := int_get hx
    have nb := Dl.wayL_bd ok n (List.mem_reverse.mp (List.mem_of_getElem? hn))
    have lf := pr_len pr
    rw [List.length_take, List.length_reverse] at lf
    refine ⟨_, rfl, .inl ⟨rfl, _, SqL.of e3⟩, _, rfl, _, rfl, _, _, rfl, rfl, by omega, F, _, _, rfl, rfl, e3, lt_line (by rw [List.length_map]; omega), ?_⟩
    refine ⟨_, rfl, _, rfl, _, _, rfl, rfl, wide_div (b := 29) (by omega) (by omega) (by decide) (by decide), ?_⟩
    refine ⟨sm_put s3 hF, (stay_lst e3).t _ _ h3, fs ++ [k1.fmod n], k1 / n, some (.int n), rfl, ?_, ?_⟩
    · rw [List.map_append]; exact upd_same
    · rw [take_snoc hn]
      exact pr_snoc pr ⟨Int.fmod_nonneg_of_pos k1 (by omega), Int.fmod_lt_of_pos k1 (by omega)⟩
  · rintro σ H2 ⟨s3, h3, fs, k1, z, rfl, e3, pr⟩
    rw [List.length_map, List.take_length] at pr
    have pr2 := pr_rev pr
    rw [List.reverse_reverse] at pr2
    have lf := pr_len pr2
    rw [List.length_reverse] at lf
    refine ⟨by show 0 ≤ sizeLine; decide, fun e0 he0 => ?_⟩
    have s4 := sm_new (o := .tup []) s3 he0
    refine ⟨by show 0 ≤ sizeLine; decide, fun TR hTR => ?_⟩
    have hTR0 : H TR = none := sm_none s4 hTR
    have s5 := sm_new (o := .lst []) s4 hTR
    refine ⟨_, _, rfl, ?_⟩
    refine ⟨_, rfl, F, _, rfl, SqL.of (upd_at (upd_at e3 he0) hTR), fun L hL => ?_⟩
    have hL0 : H L = none := sm_none s5 hL
    have s6 := sm_new (o := .lst (fs.map V.int).reverse) s5 hL
    have hTL : TR ≠ L := ne_of_none upd_same hL
    have hLT : L ≠ TR := fun e => hTL e.symm
    rw [← List.map_reverse] at s6 ⊢
    refine ⟨L, _, rfl, SqL.of upd_same, for_it (walk_enum (K := K) (a := L) (xs := fs.reverse.map V.int)) (fun i σ H' => Same H H' ∧ H' L = some (.lst (fs.reverse.map V.int)) ∧ ∃ tr vs un z6 z7, σ = [some u, some (.int k1), some (.ref F), z, some un, some (.ref TR), z6, z7] ∧ tr.length = i ∧ Dl.TrN born days tr ∧ T1 K H' un (Dl.nmB born tr i) ∧ H' TR = some (.lst vs) ∧ Paired (T2 K H') vs tr)
      ⟨s6, upd_same, [], [], .ref e0, none, none, rfl, rfl, ⟨Nat.zero_le _, fun d p r _ h => by simp at h⟩, ⟨e0, rfl, SqT.of (upd_at (upd_at upd_same hTR) hL)⟩, upd_at upd_same hL, .nil⟩ (fun i σ H' _ h => SqL.of h.2.1) ?_ ?_⟩
    · rintro i x σ H3 H4 hi ⟨s7, eL, tr, vs, un, z6, z7, rfl, htl, tn, hun, eT, prT⟩ ⟨t, x1, x2, rfl, ht, rfl, y1, y2⟩
      have y1 : V.int (i : Nat) = x1 := Option.some.inj y1
      subst y1
      obtain ⟨fg, hfg, rfl⟩ := int_get y2
      rw [List.length_map, List.length_reverse] at hi
      have hid : i < days.length := by omega
      have gd : days[i]? = some days[i] := List.getElem?_eq_getElem hid
      obtain ⟨m, hm, fb⟩ := pr_get pr2 hfg
      have em : m = Dl.waysI (Dl.alv born days i) days[i] := by
        unfold Dl.wayL at hm
        rw [List.getElem?_map, List.getElem?_range hid] at hm
        have := Option.some.inj hm
        rw [← this]
        show Dl.waysI _ (days.getD i []) = _
        rw [getD_of gd]
      obtain ⟨n1, n2, n3, n4, n5⟩ := Dl.nm_ok tn i (by omega)
      have s8 := sm_new (o := .tup [.int (i : Nat), .int fg]) s7 ht
      have na : (Dl.nmB born tr i ++ Dl.newl born (i : Nat)).length = (Dl.nmA born tr i).length := by
        unfold Dl.nmA
        rw [Dl.isort_len]
      have a12 := ok.alv12 i
      have hcal8 := hcal.mono s8
      refine ⟨t, _, rfl, SqT.of upd_same, rfl, _, _, rfl, _, _, rfl, rfl, ?_⟩
      refine ⟨_, rfl, _, rfl, _, rfl, u, born, days, _, rfl, hcal8, by have := ok.n12; omega, fun z2 H5 s9 hz2 => ?_⟩
      refine ⟨Dl.nmB born tr i, Dl.newl born (i : Nat), (hun.mono (stay_new ht)).same s9, hz2, by rw [← List.length_append, na]; omega, fun z3 H6 s10 hz3 => ?_⟩
      obtain ⟨c3, rfl, hc3⟩ := hz3
      refine ⟨c3, _, rfl, hc3, by rw [na]; omega, fun ns' p5 pm srt hp5 => ?_⟩
      have ens : ns' = Dl.nmA born tr i := Dl.isort_eq pm srt
      subst ens
      refine ⟨p5, _, rfl, .inl ⟨SqL.of upd_same, fun p6 hp6 => ?_⟩⟩
      have s11 : Same H _ := sm_new (o := .tup ((Dl.nmA born tr i).map V.int)) (sm_new (o := .lst ((Dl.nmA born tr i).map V.int)) ((s8.trans s9).trans s10) hp5) hp6
      have sA : Same H3 _ := sm_new (o := .tup ((Dl.nmA born tr i).map V.int)) (sm_new (o := .lst ((Dl.nmA born tr i).map V.int)) (((sm_new (o := .tup [.int (i : Nat), .int fg]) (Same.refl H3) ht).trans s9).trans s10) hp5) hp6
      have hN : T1 K (upd (upd H6 p5 (.lst ((Dl.nmA born tr i).map V.int))) p6 (.tup ((Dl.nmA born tr i).map V.int))) (.ref p6) (Dl.nmA born tr i) := ⟨p6, rfl, SqT.of upd_same⟩
      generalize upd (upd H6 p5 (.lst ((Dl.nmA born tr i).map V.int))) p6 (.tup ((Dl.nmA born tr i).map V.int)) = H7 at s11 sA hN ⊢
      obtain ⟨p, dx, bv, dv, rfl, hp, hb, hd⟩ := hcal.mono s11
      obtain ⟨cd, ds, rfl, hcd, prd⟩ := hd
      obtain ⟨dvi, gdv, hdv⟩ := pr_get' prd gd
      have eT7 := sA _ _ eT
      refine ⟨_, rfl, .inl ⟨rfl, _, SqL.of eT7⟩, _, rfl, _, rfl, p, C, dx, _, _, rfl, hp, CT.cl, CT.nd, rfl, _, rfl, cd, ds, _, _, rfl, rfl, hcd, atI_nat gdv, _, rfl, ?_⟩
      refine ⟨.ref p6, dvi, Dl.nmA born tr i, days[i], fg, rfl, hN, hdv, (ok.pat _ (List.getElem_mem hid)).1, n4, by omega, fb.1, by rw [n5, ← em]; exact fb.2, fun z4 H8 row s12 hz4 hrow => ?_⟩
      have eT8 := s12 _ _ eT7
      have lv := pr_len prT
      refine ⟨TR, vs, _, rfl, rfl, eT8, lt_line (by omega), ?_⟩
      have s13 : Same H (upd H8 TR (.lst (vs ++ [z4]))) := sm_put (s11.trans s12) hTR0
      have st13 := stay_lst (K := K) (o := .lst (vs ++ [z4])) eT8
      have hN13 := (hN.same s12).mono st13
      have tn' : Dl.TrN born days (tr ++ [row]) := by
        refine ⟨by rw [List.length_append]; show tr.length + 1 ≤ _; omega, fun d p r hp hr => ?_⟩
        by_cases hd : d < tr.length
        · rw [List.getElem?_append_left hd] at hr
          have := tn.row d p r hp hr
          unfold Dl.nmA at *
          rw [Dl.nmB_app born tr [row] d (by omega)]
          exact this
        · have hd2 : d = tr.length := by
            have := (List.getElem?_eq_some_iff.mp hr).1
            rw [List.length_append] at this
            have : d < tr.length + 1 := this
            omega
          subst hd2
          rw [List.getElem?_append_right (Nat.le_refl _), Nat.sub_self] at hr
          have er : row = r := Option.some.inj hr
          subst er
          rw [htl, gd] at hp
          have ep := Option.some.inj hp
          subst ep
          unfold Dl.nmA at *
          rw [Dl.nmB_app born tr [row] _ (Nat.le_refl _), htl]
          exact hrow
      refine ⟨_, rfl, _, rfl, _, rfl, TR, _, _, _, rfl, rfl, SqL.of upd_same, atI_last vs z4, ?_⟩
      have fl : row.flatten.length ≤ (Dl.nmA born tr i).length := sub_len _ _ hrow.nd fun x hx => by
        obtain ⟨g, hg, hxg⟩ := List.mem_flatten.mp hx
        exact hrow.sub g hg x hxg
      refine ⟨_, _, Dl.nmA born tr i, row, rfl, hN13, hz4.mono st13, hrow.ne, by omega, by omega, fun z5 H9 s14 hz5 => ?_⟩
      refine ⟨s13.trans s14, s14 _ _ ((upd_ne hLT).trans (s12 _ _ (sA _ _ eL))), tr ++ [row], vs ++ [z4], z5, _, _, rfl, by simp [htl], tn', ?_, s14 _ _ upd_same, ?_⟩
      · have e : Dl.nmB born (tr ++ [row]) (i + 1) = Dl.nbh (Dl.nmA born tr i) row := by
          show Dl.nbh (Dl.isort (Dl.nmB born (tr ++ [row]) i ++ Dl.newl born (i : Nat))) ((tr ++ [row]).getD i []) = _
          rw [Dl.nmB_app born tr [row] i (by omega), getD_of (x := row) (by rw [List.getElem?_append_right (by omega), htl, Nat.sub_self]; rfl)]
          rfl
        rw [e]
        exact hz5
      · exact pr_snoc (pr_mono prT fun _ _ y => ((((y.same sA).same s12).mono st13).same s14)) ((hz4.mono st13).same s14)
    · rintro σ H3 ⟨s7, eL, tr, vs, un, z6, z7, rfl, htl, tn, hun, eT, prT⟩
      rw [List.length_map, List.length_reverse, lf, wl] at htl
      refine ⟨_, rfl, TR, _, rfl, .inl ⟨SqL.of eT, fun l hl => ?_⟩⟩
      exact q _ _ tr (sm_new s7 hl) ⟨l, vs, rfl, SqT.of upd_same, prT2_mono (stay_new hl) prT⟩ (Dl.trN_ok tn htl)
end
end Dd

/-! nth_tree, with_newborn, behind_row -/
namespace Dd
open PySem PySem.Spec PyProof.Rows L2 Dr Dh
section
variable {P : Program} {w : World} {K : PySem.W.Frag} {mg : Str → Option Value} {base : Heap}
def spNthTree (K : PySem.W.Frag) (C : Addr) : Sp := fun vs H Q _ => ∃ (u : V) (born : List Int) (days : List (List Int)) (k : Int), vs = [u, .int k] ∧ CalV K C H u born days ∧ Dl.CalOk born days ∧ 0 ≤ k ∧ k < Dl.sizeI born days ∧ ∀ z H' tree, Same H H' → T3 K H' z tree → Dl.TreeOk born days tree → Q z H'
theorem bd_nth_tree {C : Addr} (T : Txt K mg) (hs : Has P w K mg base "size" 4 ["calendar"] (spSize K C)) (ht : Has P w K mg base "tree_at" 6 ["calendar", "k"] (spTreeAt K C)) : Body P w K mg base d_nth_tree 7 ["calendar", "k"] (spNthTree K C) := by
  refine body_mk (d := d_nth_tree) (N := ["calendar", "k"]) ⟨rfl, rfl, rfl, by decide +kernel, rfl, by decide +kernel, by decide +kernel⟩ (fun vs H Q E h => by obtain ⟨u, ns, p, k, rfl, _⟩ := h; rfl) (fun f cdv A outer s H vs Q E hr h => ?_)
  obtain ⟨u, born, days, k, rfl, hcal, ok, k0, k1, q⟩ := h
  have nd : (["calendar", "k"] : List Str).Nodup := by decide +kernel
  have hr4 : Room 4 (A.deeper (envOfC d_nth_tree.qual d_nth_tree.scope s.heap.objs.size f cdv)) := hr.mono (by decide)
  refine ⟨_, pss_cons (ps_if (pt_not (pt_chain op_le op_lt pe_int (pv 1) (pe_has hs hr4 (pa_cons (pv 0) pa_nil)))) (pss_one ps_never) pss_nil)
    (pss_one (ps_ret (pe_has ht hr (pa_cons (pv 0) (pa_cons (pv 1) pa_nil))))), ?_⟩
  refine ⟨_, rfl, _, _, rfl, rfl, _, rfl, ?_⟩
  rw [decide_eq_true k0]
  refine iteT ?_
  refine ⟨_, rfl, u, born, days, rfl, hcal, ok, fun H1 s1 => ?_⟩
  refine ⟨_, _, rfl, rfl, _, rfl, ?_⟩
  rw [decide_eq_true k1]
  refine iteF ?_
  exact ⟨_, rfl, _, rfl, u, born, days, k, rfl, hcal.mono s1, ok, fun z H' tree s' hz ht => q z H' tree (s1.trans s') hz ht⟩
end
end Dd

/-! with_newborn, behind_row -/
namespace Dd
open PySem PySem.Spec PyProof.Rows L2 Dr Dh
def LP (K : PySem.W.Frag) (H : Hp) (kv : Key × V) (m : Int × List Int) : Prop := kv.1 = Sum.inl m.1 ∧ T1 K H kv.2 m.2
def LnV (K : PySem.W.Frag) (H : Hp) (v : V) (ms : Dl.Lns) : Prop := ∃ d kvs, v = .ref d ∧ H d = some (.dK kvs) ∧ Paired (LP K H) kvs ms
theorem prLP_mono {K : PySem.W.Frag} {H H' : Hp} {kvs : List (Key × V)} {ms : Dl.Lns} (s : Stay K H H') (h : Paired (LP K H) kvs ms) : Paired (LP K H') kvs ms := pr_mono h fun _ _ z => ⟨z.1, z.2.mono s⟩
theorem LnV.same {K : PySem.W.Frag} {H H' : Hp} {v : V} {ms : Dl.Lns} (s : Same H H') (h : LnV K H v ms) : LnV K H' v ms := by
  obtain ⟨d, kvs, e, h, p⟩ := h
  exact ⟨d, kvs, e, s _ _ h, prLP_mono (sm_stay s) p⟩
section
variable {K : PySem.W.Frag} {H : Hp}
theorem lp_val {k : Int} : ∀ {kvs : List (Key × V)} {ms : Dl.Lns}, Paired (LP K H) kvs ms → k ∈ Dl.keys ms → ∃ v, valV kvs (Sum.inl k) = some v ∧ T1 K H v (Dl.look ms k)
  | _, _, .nil, h => by cases h
  | (k', v) :: kvs, m :: ms, .cons r t, h => by
    obtain ⟨e, hv⟩ := r
    have e : k' = Sum.inl m.1 := e
    subst e
    rw [Dl.look_cons]
    by_cases c : m.1 = k
    · rw [if_pos c]
      exact ⟨v, valV_pos (by show Sum.inl m.1 = _; rw [c]), hv⟩
    · rw [if_neg c]
      have h2 : k ∈ Dl.keys ms := by
        rcases List.mem_cons.mp h with z | z
        · exact absurd z.symm c
        · exact z
      obtain ⟨u, e1, e2⟩ := lp_val t h2
      exact ⟨u, by rw [valV_neg (fun z => c (by injection z))]; exact e1, e2⟩
theorem lp_any {k : Int} : ∀ {kvs : List (Key × V)} {ms : Dl.Lns}, Paired (LP K H) kvs ms → (kvs.any fun kv => decide (kv.1 = Sum.inl k)) = ms.any fun m => decide (m.1 = k)
  | _, _, .nil => rfl
  | (k', v) :: kvs, m :: ms, .cons r t => by
    obtain ⟨e, hv⟩ := r
    have e : k' = Sum.inl m.1 := e
    subst e
    rw [List.any_cons, List.any_cons, lp_any t]
    congr 1
    by_cases c : m.1 = k
    · simp [c]
    · simp [c]
theorem lp_set {k : Int} {v : V} {l : List Int} (hv : T1 K H v l) : ∀ {kvs : List (Key × V)} {ms : Dl.Lns}, Paired (LP K H) kvs ms → Paired (LP K H) (kvs.map fun kv => if kv.1 = Sum.inl k then (kv.1, v) else kv) (ms.map fun m => if m.1 = k then (m.1, l) else m)
  | _, _, .nil => .nil
  | (k', u) :: kvs, m :: ms, .cons r t => by
    obtain ⟨e, hu⟩ := r
    have e : k' = Sum.inl m.1 := e
    subst e
    rw [List.map_cons, List.map_cons]
    refine .cons ?_ (lp_set hv t)
    by_cases c : m.1 = k
    · rw [if_pos c, if_pos (by show Sum.inl m.1 = _; rw [c])]
      exact ⟨rfl, hv⟩
    · rw [if_neg c, if_neg (fun z => c (by injection z))]
      exact ⟨rfl, hu⟩
theorem lp_put {kvs : List (Key × V)} {ms : Dl.Lns} {k : Int} {v : V} {l : List Int} (h : Paired (LP K H) kvs ms) (hv : T1 K H v l) : Paired (LP K H) (putK kvs (Sum.inl k) v) (Dl.put ms k l) := by
  unfold putK Dl.put
  rw [lp_any h]
  by_cases c : (ms.any fun m => decide (m.1 = k)) = true
  · rw [if_pos c, if_pos c]
    exact lp_set hv h
  · rw [if_neg c, if_neg c]
    exact pr_snoc h ⟨rfl, hv⟩
theorem lp_drop {k : Int} : ∀ {kvs : List (Key × V)} {ms : Dl.Lns}, Paired (LP K H) kvs ms → Paired (LP K H) (dropK kvs (Sum.inl k)) (Dl.drop ms k)
  | _, _, .nil => .nil
  | (k', u) :: kvs, m :: ms, .cons r t => by
    obtain ⟨e, hu⟩ := r
    have e : k' = Sum.inl m.1 := e
    subst e
    have ih := lp_drop (k := k) t
    unfold dropK Dl.drop at *
    by_cases c : m.1 = k
    · rw [List.filter_cons_of_neg (by simp [c]), List.filter_cons_of_neg (by simp [c])]
      exact ih
    · rw [List.filter_cons_of_pos (by simp [c]), List.filter_cons_of_pos (by simp [c])]
      exact .cons ⟨rfl, hu⟩ ih
end
theorem put_len (ms : Dl.Lns) (k : Int) (l : List Int) : (Dl.put ms k l).length ≤ ms.length + 1 := by
  unfold Dl.put
  split <;> simp
theorem wn_len (d : Int) : ∀ (L : List (Int × Nat)) (ms : Dl.Lns), (L.foldl (Dl.wnS d) ms).length ≤ ms.length + L.length
  | [], _ => by simp
  | p :: L, ms => by
    have ih := wn_len d L (Dl.wnS d ms p)
    have : (Dl.wnS d ms p).length ≤ ms.length + 1 := by
      unfold Dl.wnS
      split
      · exact put_len _ _ _
      · omega
    rw [List.foldl_cons, List.length_cons]
    omega
section
variable {P : Program} {w : World} {K : PySem.W.Frag} {mg : Str → Option Value} {base : Heap}
def spWithN (K : PySem.W.Frag) (C : Addr) : Sp := fun vs H Q _ => ∃ (u v : V) (born : List Int) (days : List (List Int)) (ms : Dl.Lns) (d : Int), vs = [u, v, .int d] ∧ CalV K C H u born days ∧ LnV K H v ms ∧ born.length ≤ 100 ∧ ms.length ≤ 100 ∧ ∀ z H', Same H H' → LnV K H' z (Dl.wn born ms d) → Q z H'
theorem ok_with_newborn {C : Addr} (T : Txt K mg) (CT : ClT K mg C) (G : Giv K mg d_with_newborn) : Has P w K mg base "with_newborn" 1 ["calendar", "lines", "d"] (spWithN K C) := by
  refine has_mk (d := d_with_newborn) (N := ["calendar", "lines", "d", "found", "leaf", "day"]) G ⟨rfl, rfl, rfl, by decide +kernel, rfl, by decide +kernel, by decide +kernel⟩ (fun _ _ _ _ _ _ us hl => match us, hl with | [_, _, _], _ => rfl) (fun vs H Q E h => by obtain ⟨u, v, ns, p, ms, d, rfl, _⟩ := h; rfl) (fun f cdv A outer s H vs Q E hr h => ?_)
  obtain ⟨u, v, born, days, ms, d, rfl, ⟨p, dx, bv, dv, rfl, hp, ⟨b, rfl, hb⟩, hd⟩, ⟨dd, kvs, rfl, hdd, pr⟩, hl, hm, q⟩ := h
  have nd : (["calendar", "lines", "d", "found", "leaf", "day"] : List Str).Nodup := by decide +kernel
  refine ⟨_, pss_cons (ps_set (i := 3) nd rfl (Or.inl rfl) (pe_callTy call_dictD (by rfl) T.dict b_dict (pa_cons (pv 1) pa_nil)))
    (pss_cons (ps_for PassesOwn.never rfl (pi_enumT (by rfl) T.enumerate (pa_cons (pe_fld (pv 0) rfl) pa_nil)) (pg_tup rfl (pgs_cons (pg_name (i := 4) nd rfl (Or.inl rfl)) (pgs_cons (pg_name (i := 5) nd rfl (Or.inl rfl)) pgs_nil)))
      (pss_one (ps_if (pt_cmpR op_eq (pv 5) (pv 2) (nomark _)) (pss_one (ps_dput (hu_of hr) (pv 3) (pv 4) (pe_tup (pa_cons (pv 4) pa_nil)) rfl)) pss_nil)))
    (pss_one (ps_ret (pv 3)))), ?_⟩
  refine ⟨_, rfl, dd, kvs, rfl, .inl hdd, fun F hF => ?_⟩
  have s0 := sm_new (o := .dK kvs) (Same.refl H) hF
  refine ⟨_, rfl, p, C, dx, _, _, rfl, s0 _ _ hp, CT.cl, CT.nb, rfl, b, _, rfl, ((sm_stay (K := K) s0).x _ _ hb).sqT, ?_⟩
  refine for_it (walk_enumT (K := K) (a := b) (xs := born.map V.int)) (fun i σ H' => Same H H' ∧ ∃ kvs' z4 z5, σ = [some (.ref p), some (.ref dd), some (.int d), some (.ref F), z4, z5] ∧ H' F = some (.dK kvs') ∧ Paired (LP K H') kvs' ((born.zipIdx.take i).foldl (Dl.wnS d) ms))
    ⟨s0, kvs, none, none, rfl, upd_same, prLP_mono (sm_stay s0) pr⟩ (fun i σ H' _ h => ((sm_stay (K := K) h.1).x _ _ hb).sqT) ?_ ?_
  · rintro i x σ H1 H2 hi ⟨s1, kvs', z4, z5, rfl, e1, pr1⟩ ⟨t, x1, x2, rfl, ht, rfl, y1, y2⟩
    have y1 : V.int (i : Nat) = x1 := Option.some.inj y1
    subst y1
    obtain ⟨n, hn, rfl⟩ := int_get y2
    have s2 := sm_new (o := .tup [.int (i : Nat), .int n]) s1 ht
    have st2 := stay_new (K := K) (o := .tup [.int (i : Nat), .int n]) ht
    have fs := foldl_snoc (f := Dl.wnS d) (b := ms) (zipIdx_at hn)
    refine ⟨t, _, rfl, SqT.of upd_same, rfl, _, _, rfl, _, _, rfl, rfl, ?_⟩
    refine ⟨_, rfl, _, rfl, rfl, _, rfl, ?_⟩
    by_cases c : n = d
    · subst c
      rw [decide_eq_true rfl]
      refine iteT ?_
      refine ⟨_, rfl, by show 1 ≤ sizeLine; decide, fun t2 ht2 => ?_⟩
      have s3 := sm_new (o := .tup [.int (i : Nat)]) s2 ht2
      have e3 := upd_at (o' := .tup [.int (i : Nat)]) (upd_at (o' := .tup [.int (i : Nat), .int n]) e1 ht) ht2
      refine ⟨_, rfl, _, rfl, F, _, rfl, DPut.k (k := Sum.inl (i : Int)) e3 ?_, ?_⟩
      · rw [pr_len pr1]
        refine lt_line (Nat.le_trans (wn_len _ _ _) ?_)
        rw [List.length_take, List.length_zipIdx]
        omega
      · have st4 := stay_dK (K := K) (o := .dK (putK kvs' (Sum.inl (i : Int)) (.ref t2))) e3
        refine ⟨sm_put s3 hF, _, some (.int (i : Nat)), some (.int n), rfl, upd_same, ?_⟩
        rw [fs]
        unfold Dl.wnS
        rw [if_pos rfl]
        exact lp_put (prLP_mono ((st2.trans (stay_new ht2)).trans st4) pr1) (T1.mono st4 ⟨t2, rfl, SqT.of upd_same⟩)
    · rw [decide_eq_false (fun e => c (by injection e))]
      refine iteF ⟨s2, kvs', some (.int (i : Nat)), some (.int n), rfl, upd_at e1 ht, ?_⟩
      rw [fs]
      unfold Dl.wnS
      rw [if_neg c]
      exact prLP_mono st2 pr1
  · rintro σ H1 ⟨s1, kvs', z4, z5, rfl, e1, pr1⟩
    rw [List.length_map, List.take_of_length_le (by simp)] at pr1
    exact ⟨_, rfl, q _ _ s1 ⟨F, kvs', rfl, e1, pr1⟩⟩
end
end Dd

/-! behind_row -/
namespace Dd
open PySem PySem.Spec PyProof.Rows L2 Dr Dh
theorem rng_len {l : List Int} {n : Nat} (nd : l.Nodup) (h : ∀ x ∈ l, ∃ i : Nat, x = i ∧ i < n) : l.length ≤ n := by
  have := sub_len l ((List.range n).map fun i : Nat => (i : Int)) nd fun x hx => by
    obtain ⟨i, e, hi⟩ := h x hx
    exact List.mem_map.mpr ⟨i, List.mem_range.mpr hi, e.symm⟩
  simpa using this
theorem bn_rng {born : List Int} {ms : Dl.Lns} {d : Int} (b : Dl.Bn born ms d) {m : Int × List Int} (hm : m ∈ ms) {x : Int} (hx : x ∈ m.2) : ∃ i : Nat, x = i ∧ i < born.length := by
  obtain ⟨i, c, e1, e2, _⟩ := b m hm x hx
  exact ⟨i, e1, (List.getElem?_eq_some_iff.mp e2).1⟩
theorem lines_len {born : List Int} {ms : Dl.Lns} {d : Int} (k : Dl.LOk ms) (b : Dl.Bn born ms d) : ms.length ≤ born.length := by
  have := rng_len k.knd (n := born.length) fun x hx => by
    obtain ⟨m, hm, e⟩ := List.mem_map.mp hx
    have := bn_rng b hm (k.kin hm)
    rw [e] at this
    exact this
  simpa [Dl.keys] using this
theorem met_len {born : List Int} {ms : Dl.Lns} {d : Int} (k : Dl.LOk ms) (b : Dl.Bn born ms d) {g : List Int} (nd : g.Nodup) (h : ∀ x ∈ g, x ∈ Dl.keys ms) : (g.flatMap (Dl.look ms)).length ≤ born.length := by
  refine rng_len (Dl.flat_nodup k nd h) fun x hx => ?_
  obtain ⟨y, hy, hxy⟩ := List.mem_flatMap.mp hx
  exact bn_rng b (Dl.look_in (h y hy)) hxy
theorem row_split {row : List (List Int)} {i : Nat} {g : List Int} (h : row[i]? = some g) : row = row.take i ++ g :: row.drop (i + 1) := by
  obtain ⟨hi, e⟩ := List.getElem?_eq_some_iff.mp h
  have : row.drop i = g :: row.drop (i + 1) := by rw [List.drop_eq_getElem_cons hi, e]
  rw [← this, List.take_append_drop]
theorem row_pre {born : List Int} {ms : Dl.Lns} {d : Int} {p : List Int} {row : List (List Int)} (k : Dl.LOk ms) (b : Dl.Bn born ms d) (o : Dl.RowOk (Dl.keys ms) p row) (i : Nat) : Dl.BrOk born d ms (row.take i) := by
  refine Dl.br_ok k b (fun g hg => o.asc g (List.mem_of_mem_take hg)) (fun g hg => o.sub g (List.mem_of_mem_take hg)) ?_ fun g hg => o.ne g (List.mem_of_mem_take hg)
  have := o.nd
  rw [← List.take_append_drop i row, List.flatten_append] at this
  exact (List.nodup_append.mp this).1
theorem row_keys {born : List Int} {ms : Dl.Lns} {d : Int} {p : List Int} {row : List (List Int)} (k : Dl.LOk ms) (b : Dl.Bn born ms d) (o : Dl.RowOk (Dl.keys ms) p row) {i : Nat} {g : List Int} (h : row[i]? = some g) : ∀ x ∈ g, x ∈ Dl.keys (Dl.br ms (row.take i)) := by
  intro x hx
  have kx := o.sub g (List.mem_of_getElem? h) x hx
  have nx : x ∉ (row.take i).flatten := fun z => by
    have nd := o.nd
    rw [row_split h, List.flatten_append] at nd
    exact (List.nodup_append.mp nd).2.2 x z x (by rw [List.flatten_cons]; exact List.mem_append_left _ hx) rfl
  have := ((row_pre k b o i).mem x (Dl.look ms x)).mpr (.inl ⟨Dl.look_in kx, nx⟩)
  exact List.mem_map.mpr ⟨_, this, rfl⟩
section
variable {P : Program} {w : World} {K : PySem.W.Frag} {mg : Str → Option Value} {base : Heap}
def spBehind (K : PySem.W.Frag) : Sp := fun vs H Q _ => ∃ (u v : V) (ms : Dl.Lns) (row : List (List Int)) (born : List Int) (d : Int) (p : List Int), vs = [u, v] ∧ LnV K H u ms ∧ T2 K H v row ∧ Dl.LOk ms ∧ Dl.Bn born ms d ∧ Dl.RowOk (Dl.keys ms) p row ∧ born.length ≤ 12 ∧ ∀ z H', Same H H' → LnV K H' z (Dl.br ms row) → Q z H'
theorem ok_behind_row (T : Txt K mg) (G : Giv K mg d_behind_row) : Has P w K mg base "behind_row" 1 ["lines", "row"] (spBehind K) := by
  refine has_mk (d := d_behind_row) (N := ["lines", "row", "found", "group", "met", "name"]) G ⟨rfl, rfl, rfl, by decide +kernel, rfl, by decide +kernel, by decide +kernel⟩ (fun _ _ _ _ _ _ us hl => match us, hl with | [_, _], _ => rfl) (fun vs H Q E h => by obtain ⟨u, v, ms, row, born, d, p, rfl, _⟩ := h; rfl) (fun f cdv A outer s H vs Q E hr h => ?_)
  obtain ⟨u, v, ms, row, born, d, p, rfl, ⟨dd, kvs, rfl, hdd, pr⟩, ⟨c, gs, rfl, hc, pg⟩, ok, bn, ro, hb12, q⟩ := h
  have nd : (["lines", "row", "found", "group", "met", "name"] : List Str).Nodup := by decide +kernel
  refine ⟨_, pss_cons (ps_set (i := 2) nd rfl (Or.inl rfl) (pe_callTy call_dictD (by rfl) T.dict b_dict (pa_cons (pv 0) pa_nil)))
    (pss_cons (ps_for PassesOwn.never rfl (pi_tup (pv 1)) (pg_name (i := 3) nd rfl (Or.inl rfl))
      (pss_cons (ps_set (i := 4) nd rfl (Or.inl rfl) (pe_lst pa_nil))
      (pss_cons (ps_for PassesOwn.never rfl (pi_tup (pv 3)) (pg_name (i := 5) nd rfl (Or.inl rfl))
        (pss_one (ps_expr (pe_bm PySem.F.plainAttrs_list PySem.F.slot_list_extend PySem.F.type_list_extend mt_extendT (pv 4) (pa_cons (pe_dpop1 (pv 2) (pv 5) ⟨rfl, rfl, rfl, rfl⟩) pa_nil)))))
      (pss_one (ps_dput (hu_of hr) (pv 2) (pe_ix ix_tup (pv 3) pe_int (fun _ _ => rfl)) (pe_callTy (crTup K rfl) (by rfl) T.tuple b_tuple (pa_cons (pe_callB cr_sorted (by rfl) T.sorted b_sorted (pa_cons (pv 4) pa_nil)) pa_nil)) rfl)))))
    (pss_one (ps_ret (pv 2)))), ?_⟩
  refine ⟨_, rfl, dd, kvs, rfl, .inl hdd, fun F hF => ?_⟩
  have s0 := sm_new (o := .dK kvs) (Same.refl H) hF
  have lp := pr_len pg
  refine ⟨_, rfl, c, rfl, ⟨_, (sm_stay s0).t _ _ hc⟩, for_it (walk_tup (K := K) (a := c) (xs := gs)) (fun i σ H' => Same H H' ∧ ∃ kvs' z3 z4 z5, σ = [some (.ref dd), some (.ref c), some (.ref F), z3, z4, z5] ∧ H' F = some (.dK kvs') ∧ Paired (LP K H') kvs' (Dl.br ms (row.take i)))
    ⟨s0, kvs, none, none, none, rfl, upd_same, prLP_mono (sm_stay s0) pr⟩ (fun i σ H' _ h => (sm_stay h.1).t _ _ hc) ?_ ?_⟩
  · rintro i x σ H1 H2 hi ⟨s1, kvs1, z3, z4, z5, rfl, e1, pr1⟩ ⟨rfl, hx⟩
    obtain ⟨g, hg, y⟩ := pr_get pg hx
    obtain ⟨b, rfl, hb⟩ := y
    have gm := List.mem_of_getElem? hg
    have gnd := Dl.lt_nodup (ro.asc g gm)
    have gne := ro.ne g gm
    have bo := row_pre ok bn ro i
    have gk := row_keys ok bn ro hg
    generalize eM : Dl.br ms (row.take i) = M at pr1 gk
    have kM : Dl.LOk M := eM ▸ bo.ok
    have bM : Dl.Bn born M d := eM ▸ bo.bn
    refine ⟨by show 0 ≤ sizeLine; decide, fun ME hME => ?_⟩
    have hME0 := sm_none s1 hME
    have hFM : F ≠ ME := ne_of_none e1 hME
    have hMF : ME ≠ F := fun e => hFM e.symm
    have s2 := sm_new (o := .lst []) s1 hME
    refine ⟨_, rfl, b, rfl, ⟨_, (sm_stay s2).t _ _ hb⟩, for_it (walk_tup (K := K) (a := b) (xs := g.map V.int)) (fun j σ H' => Same H H' ∧ ∃ kvs2 z5, σ = [some (.ref dd), some (.ref c), some (.ref F), some (.ref b), some (.ref ME), z5] ∧ H' F = some (.dK kvs2) ∧ H' ME = some (.lst (((g.take j).foldl Dl.popS (M, [])).2.map V.int)) ∧ Paired (LP K H') kvs2 ((g.take j).foldl Dl.popS (M, [])).1)
      ⟨s2, kvs1, z5, rfl, upd_at e1 hME, upd_same, prLP_mono (stay_new hME) pr1⟩ (fun j σ H' _ h => (sm_stay h.1).t _ _ hb) ?_ ?_⟩
    · rintro j x σ H3 H4 hj ⟨s3, kvs2, z5, rfl, e3, eM3, pr3⟩ ⟨rfl, hx⟩
      obtain ⟨n, hn, rfl⟩ := int_get hx
      have ts := take_snoc hn
      have tnd : (g.take (j + 1)).Nodup := gnd.sublist (List.take_sublist _ _)
      have tnd0 : (g.take j).Nodup := gnd.sublist (List.take_sublist _ _)
      have nn : n ∉ g.take j := fun z => by
        rw [ts] at tnd
        exact (List.nodup_append.mp tnd).2.2 n z n (List.mem_singleton.mpr rfl) rfl
      have pf := Dl.pop_fold (g.take j) M [] tnd0
      have pf1 := Dl.pop_fold (g.take (j + 1)) M [] tnd
      have nM := gk n (List.mem_of_getElem? hn)
      have nk : n ∈ Dl.keys ((g.take j).foldl Dl.popS (M, [])).1 := by
        rw [pf]
        refine List.mem_map.mpr ⟨(n, Dl.look M n), List.mem_filter.mpr ⟨Dl.look_in nM, ?_⟩, rfl⟩
        exact decide_eq_true nn
      have fs := foldl_snoc (f := Dl.popS) (b := (M, [])) hn
      have ml := met_len kM bM tnd fun x hx => gk x (List.mem_of_mem_take hx)
      have l2 : ((g.take (j + 1)).foldl Dl.popS (M, [])).2.length ≤ 12 := by
        rw [pf1]
        show ([] ++ _).length ≤ 12
        rw [List.nil_append]
        omega
      generalize eS : (g.take j).foldl Dl.popS (M, []) = S at eM3 pr3 nk fs
      obtain ⟨vv, ev, ha⟩ := lp_val pr3 nk
      obtain ⟨a, rfl, ha⟩ := ha
      refine ⟨_, rfl, .inl ⟨rfl, _, SqL.of eM3⟩, ?_⟩
      refine ⟨_, rfl, F, rfl, .inl ⟨_, .inl e3⟩, _, rfl, kvs2, Sum.inl n, _, e3, rfl, ev, ?_⟩
      have st4 := stay_dK (K := K) (o := .dK (dropK kvs2 (Sum.inl n))) e3
      have e4 : (upd H4 F (.dK (dropK kvs2 (Sum.inl n)))) ME = some (.lst (S.2.map V.int)) := (upd_ne hMF).trans eM3
      rw [fs] at l2 ⊢
      refine ⟨ME, a, _, _, rfl, rfl, e4, st4.t _ _ ha, ?_, ?_⟩
      · have : (Dl.popS S n).2.length = S.2.length + (Dl.look S.1 n).length := by
          unfold Dl.popS
          rw [List.length_append]
        rw [List.length_map, List.length_map]
        exact le_line (by omega)
      · have st5 := stay_lst (K := K) (o := .lst (S.2.map V.int ++ (Dl.look S.1 n).map V.int)) e4
        refine ⟨sm_put (sm_put s3 hF) hME0, _, some (.int n), rfl, (upd_ne hFM).trans upd_same, ?_, ?_⟩
        · show _ = some (HO.lst ((S.2 ++ Dl.look S.1 n).map V.int))
          rw [List.map_append]
          exact upd_same
        · exact lp_drop (prLP_mono (st4.trans st5) pr3)
    · rintro σ H3 ⟨s3, kvs2, z5, rfl, e3, eM3, pr3⟩
      rw [List.length_map, List.take_length] at eM3 pr3
      have pf := Dl.pop_fold g M [] gnd
      have ml := met_len kM bM gnd gk
      have l2 : (g.foldl Dl.popS (M, [])).2.length ≤ 12 := by
        rw [pf]
        show ([] ++ _).length ≤ 12
        rw [List.nil_append]
        omega
      have fs := foldl_snoc (f := Dl.bg) (b := ms) hg
      have eB : Dl.br ms (row.take (i + 1)) = Dl.put (g.foldl Dl.popS (M, [])).1 (g.headD 0) (Dl.isort (g.foldl Dl.popS (M, [])).2) := by
        rw [← eM]; exact fs
      rw [eB]
      have l1 : (g.foldl Dl.popS (M, [])).1.length ≤ 100 := by
        rw [pf]
        refine Nat.le_trans (List.length_filter_le _ _) ?_
        have := lines_len kM bM
        omega
      generalize g.foldl Dl.popS (M, []) = S at eM3 pr3 l2 l1
      refine ⟨_, rfl, ME, _, rfl, SqL.of eM3, by omega, fun ns' p5 pm srt hp5 => ?_⟩
      have ens : ns' = Dl.isort S.2 := Dl.isort_eq pm srt
      subst ens
      refine ⟨p5, _, rfl, .inl ⟨SqL.of upd_same, fun p6 hp6 => ?_⟩⟩
      have s6 : Same H _ := sm_new (o := .tup ((Dl.isort S.2).map V.int)) (sm_new (o := .lst ((Dl.isort S.2).map V.int)) s3 hp5) hp6
      have e6 := upd_at (o' := .tup ((Dl.isort S.2).map V.int)) (upd_at (o' := .lst ((Dl.isort S.2).map V.int)) e3 hp5) hp6
      obtain ⟨g0, g1, rfl⟩ := List.exists_cons_of_ne_nil gne
      refine ⟨_, rfl, _, rfl, b, _, 0, .int g0, rfl, rfl, (sm_stay (K := K) s6).t _ _ hb, at_of (j := 0) rfl rfl, F, _, rfl, DPut.k (k := Sum.inl g0) e6 (by rw [pr_len pr3]; exact lt_line (by omega)), ?_⟩
      have st7 := stay_dK (K := K) (o := .dK (putK kvs2 (Sum.inl g0) (.ref p6))) e6
      refine ⟨sm_put s6 hF, _, _, _, _, rfl, upd_same, ?_⟩
      exact lp_put (prLP_mono (((stay_new hp5).trans (stay_new hp6)).trans st7) pr3) (T1.mono st7 ⟨p6, rfl, SqT.of upd_same⟩)
  · rintro σ H1 ⟨s1, kvs1, z3, z4, z5, rfl, e1, pr1⟩
    rw [lp, List.take_length] at pr1
    exact ⟨_, rfl, q _ _ s1 ⟨F, kvs1, rfl, e1, pr1⟩⟩
end
end Dd

/-! lines_ahead, line_with, is_group -/
namespace Dd
open PySem PySem.Spec PyProof.Rows L2 Dr Dh
theorem upd_back {H : Hp} {d : Addr} {x u : HO} (h : H d = some u) : upd (upd H d x) d u = H := by
  funext b
  by_cases e : b = d
  · subst e; rw [upd_same, h]
  · rw [upd_ne e, upd_ne e]
theorem T3.at {K : PySem.W.Frag} {H : Hp} {a : Addr} {vs : List V} {tree : List (List (List Int))} {i : Nat} {r : List (List Int)} (pr : Paired (T2 K H) vs tree) (h : tree[i]? = some r) : ∃ v, vs[i]? = some v ∧ T2 K H v r := pr_get' pr h
theorem days_at {born : List Int} {days : List (List Int)} {tree : List (List (List Int))} (t : Dl.TreeOk born days tree) {i : Nat} (h : i < tree.length) : ∃ p r, days[i]? = some p ∧ tree[i]? = some r ∧ Dl.RowOk (Dl.keys (Dl.la born tree i)) p r ∧ tree.getD i [] = r := by
  have h2 : i < days.length := by rw [← t.len]; exact h
  have e1 : days[i]? = some days[i] := List.getElem?_eq_getElem h2
  have e2 : tree[i]? = some tree[i] := List.getElem?_eq_getElem h
  exact ⟨_, _, e1, e2, t.row i _ _ e1 e2, getD_of e2⟩
section
variable {P : Program} {w : World} {K : PySem.W.Frag} {mg : Str → Option Value} {base : Heap}
def spAhead (K : PySem.W.Frag) (C : Addr) : Sp := fun vs H Q _ => ∃ (u v : V) (born : List Int) (days : List (List Int)) (tree : List (List (List Int))) (n : Nat), vs = [u, v, .int (n : Nat)] ∧ CalV K C H u born days ∧ T3 K H v tree ∧ Dl.TreeOk born days tree ∧ born.length ≤ 12 ∧ n ≤ tree.length ∧ tree.length ≤ 100 ∧ ∀ z H', Same H H' → LnV K H' z (Dl.la born tree n) → Q z H'
theorem ok_lines_ahead {C : Addr} (T : Txt K mg) (G : Giv K mg d_lines_ahead) (hw : Has P w K mg base "with_newborn" 1 ["calendar", "lines", "d"] (spWithN K C)) (hb : Has P w K mg base "behind_row" 1 ["lines", "row"] (spBehind K)) : Has P w K mg base "lines_ahead" 2 ["calendar", "tree", "d"] (spAhead K C) := by
  refine has_mk (d := d_lines_ahead) (N := ["calendar", "tree", "d", "lines", "day"]) G ⟨rfl, rfl, rfl, by decide +kernel, rfl, by decide +kernel, by decide +kernel⟩ (fun _ _ _ _ _ _ us hl => match us, hl with | [_, _, _], _ => rfl) (fun vs H Q E h => by obtain ⟨u, v, ms, row, born, d, rfl, _⟩ := h; rfl) (fun f cdv A outer s H vs Q E hr h => ?_)
  obtain ⟨u, v, born, days, tree, n, rfl, hcal, ⟨c, rs, rfl, hc, pr⟩, tok, hb12, hn, hl, q⟩ := h
  have nd : (["calendar", "tree", "d", "lines", "day"] : List Str).Nodup := by decide +kernel
  refine ⟨_, pss_cons (ps_set (i := 3) nd rfl (Or.inl rfl) (pe_has hw hr (pa_cons (pv 0) (pa_cons pe_dnewK (pa_cons pe_int pa_nil)))))
    (pss_cons (ps_for PassesOwn.never rfl (pi_range1 (by rfl) T.range (pa_cons (pv 2) pa_nil)) (pg_name (i := 4) nd rfl (Or.inl rfl))
      (pss_one (ps_set (i := 3) nd rfl (Or.inl rfl) (pe_has hw hr (pa_cons (pv 0) (pa_cons (pe_has hb hr (pa_cons (pv 3) (pa_cons (pe_ix ix_tup (pv 1) (pv 4) (fun _ _ => rfl)) pa_nil))) (pa_cons (pe_op op_add (pv 4) pe_int) pa_nil)))))))
    (pss_one (ps_ret (pv 3)))), ?_⟩
  refine ⟨_, rfl, fun D hD => ?_⟩
  have s0 := sm_new (o := .dK []) (Same.refl H) hD
  refine ⟨u, .ref D, born, days, [], 0, rfl, hcal.mono s0, ⟨D, [], rfl, upd_same, .nil⟩, by omega, Nat.zero_le _, fun z H1 s1 hz => ?_⟩
  have s01 := s0.trans s1
  refine ⟨_, rfl, _, rfl, by omega, by omega, ?_⟩
  refine for_it (walk_range (lo := 0) (n := n)) (fun i σ H' => Same H H' ∧ ∃ z z4, σ = [some u, some (.ref c), some (.int (n : Nat)), some z, z4] ∧ LnV K H' z (Dl.la born tree i))
    ⟨s01, z, none, rfl, hz⟩ (fun _ _ _ _ _ => trivial) ?_ ?_
  · rintro i x σ H2 H3 hi ⟨s2, z, z4, rfl, hz2⟩ ⟨rfl, rfl⟩
    obtain ⟨p, r, e1, e2, ro, eg⟩ := days_at tok (show i < tree.length by omega)
    obtain ⟨rv, erv, hrv⟩ := pr_get' pr e2
    obtain ⟨lok, lbn⟩ := Dl.la_ok tok i (by omega)
    refine ⟨_, rfl, _, rfl, _, rfl, _, rfl, c, _, _, _, rfl, rfl, (sm_stay (K := K) s2).t _ _ hc, at_of (j := i) (by omega) erv, z, rv, _, r, born, _, p, rfl, hz2, hrv.same s2, lok, lbn, ro, hb12, fun z3 H4 s3 hz3 => ?_⟩
    refine ⟨_, rfl, _, _, rfl, rfl, u, z3, born, days, _, _, rfl, hcal.mono (s2.trans s3), hz3, by omega, ?_, fun z5 H5 s5 hz5 => ?_⟩
    · have bo := row_pre lok lbn ro r.length
      rw [List.take_length] at bo
      have := lines_len bo.ok bo.bn
      omega
    · refine ⟨(s2.trans s3).trans s5, z5, _, rfl, ?_⟩
      have e : Dl.la born tree (i + 1) = Dl.wn born (Dl.br (Dl.la born tree i) r) (0 + (i : Int) + 1) := by
        unfold Dl.la
        rw [Dl.pre, eg]
        congr 1
        omega
      rw [e]
      exact hz5
  · rintro σ H2 ⟨s2, z, z4, rfl, hz2⟩
    exact ⟨_, rfl, q _ _ s2 hz2⟩
def spLineW (K : PySem.W.Frag) : Sp := fun vs H Q _ => ∃ (u : V) (ms : Dl.Lns) (x : Int), vs = [u, .int x] ∧ LnV K H u ms ∧ (∀ l, Dl.lw ms x = some l → ∀ z, T1 K H z l → Q z H) ∧ (Dl.lw ms x = none → Q .non H)
theorem lw_take {ms : Dl.Lns} {x : Int} {i : Nat} {m : Int × List Int} (h : ms[i]? = some m) (hn : ∀ m ∈ ms.take i, x ∉ m.2) (hm : x ∈ m.2) : Dl.lw ms x = some m.2 := by
  obtain ⟨hi, e⟩ := List.getElem?_eq_some_iff.mp h
  have ed : ms.drop i = m :: ms.drop (i + 1) := by rw [List.drop_eq_getElem_cons hi, e]
  have e2 : ms = ms.take i ++ m :: ms.drop (i + 1) := by rw [← ed, List.take_append_drop]
  unfold Dl.lw
  rw [e2, List.find?_append, List.find?_eq_none.mpr (fun y hy => by simpa using hn y hy), List.find?_cons_of_pos (by simpa using hm)]
  rfl
theorem ok_line_with (T : Txt K mg) (G : Giv K mg d_line_with) : Has P w K mg base "line_with" 1 ["found", "x"] (spLineW K) := by
  refine has_mk (d := d_line_with) (N := ["found", "x", "leaves"]) G ⟨rfl, rfl, rfl, by decide +kernel, rfl, by decide +kernel, by decide +kernel⟩ (fun _ _ _ _ _ _ us hl => match us, hl with | [_, _], _ => rfl) (fun vs H Q E h => by obtain ⟨u, v, x, rfl, _⟩ := h; rfl) (fun f cdv A outer s H vs Q E hr h => ?_)
  obtain ⟨u, ms, x, rfl, ⟨d, kvs, rfl, hd, pr⟩, q1, q2⟩ := h
  have nd : (["found", "x", "leaves"] : List Str).Nodup := by decide +kernel
  refine ⟨_, pss_cons (ps_lock (ps_for PassesOwn.never rfl (pi_values (pv 0)) (pg_name (i := 2) nd rfl (Or.inl rfl))
      (pss_one (ps_if (pt_cmpR op_in_seq (pv 1) (pv 2) (by rfl)) (pss_one (ps_ret (pv 2))) pss_nil))))
    (pss_one (ps_ret pe_non)), ?_⟩
  refine ⟨d, _, hd, trivial, fun od => ?_⟩
  have eL : (upd H d (.frz od (.dK kvs))) d = some (.frz od (.dK kvs)) := upd_same
  have st := stay_dK (K := K) (o := .frz od (.dK kvs)) hd
  refine ⟨_, rfl, d, od, kvs, rfl, eL, for_it (walk_values (d := d) (o := od) (kvs := kvs)) (fun i σ H' => H' = upd H d (.frz od (.dK kvs)) ∧ (∀ m ∈ ms.take i, x ∉ m.2) ∧ ∃ z, σ = [some (.ref d), some (.int x), z])
    ⟨rfl, by simp, none, rfl⟩ (fun i σ H' _ h => by rw [h.1]; exact eL) ?_ ?_⟩
  · rintro i v σ H1 H2 hi ⟨rfl, hn, z, rfl⟩ ⟨rfl, k, ek⟩
    obtain ⟨m, hm, _, hv⟩ := pr_get pr ek
    obtain ⟨a, rfl, ha⟩ := hv.mono st
    refine ⟨_, rfl, _, rfl, a, _, rfl, .inr ha, rfl, flat_ints _, _, rfl, ?_⟩
    dsimp only
    rw [if_neg (show ¬ (false = true) by decide), inV_ints]
    by_cases hx : x ∈ m.2
    · rw [decide_eq_true hx]
      refine iteT ?_
      refine ⟨_, rfl, eL, ?_⟩
      rw [upd_back hd]
      exact q1 _ (lw_take hm hn hx) _ hv
    · rw [decide_eq_false hx]
      refine iteF ⟨rfl, fun m' hm' => ?_, _, rfl⟩
      rw [take_snoc hm] at hm'
      rcases List.mem_append.mp hm' with h | h
      · exact hn m' h
      · rw [List.mem_singleton.mp h]; exact hx
  · rintro σ H1 ⟨rfl, hn, z, rfl⟩
    rw [pr_len pr, List.take_length] at hn
    refine ⟨eL, ?_⟩
    rw [upd_back hd]
    refine q2 ?_
    unfold Dl.lw
    rw [List.find?_eq_none.mpr (fun y hy => by simpa using hn y hy)]
    rfl
end
end Dd

/-! is_group, is_row -/
namespace Dd
open PySem PySem.Spec PyProof.Rows L2 Dr Dh
theorem cut_to {ns : List Int} {j : Int} {i : Nat} (e : j = (i : Int)) : cutV (ns.map V.int) none (some j) = (ns.take i).map V.int := by
  subst e
  unfold cutV HT.sIx
  simp only [List.length_map]
  rw [if_neg (by omega), Int.toNat_natCast, List.drop_zero, Nat.sub_zero, ← List.map_take]
  by_cases h : i ≤ ns.length
  · rw [Nat.min_eq_left h]
  · rw [Nat.min_eq_right (by omega), List.take_of_length_le (Nat.le_refl _), List.take_of_length_le (by omega)]
theorem row_len : ∀ {row : List (List Int)}, (∀ g ∈ row, g ≠ []) → row.length ≤ row.flatten.length
  | [], _ => Nat.zero_le _
  | g :: row, h => by
    have := row_len (row := row) fun g hg => h g (List.mem_cons_of_mem _ hg)
    have h1 := List.length_pos_iff.mpr (h g List.mem_cons_self)
    rw [List.flatten_cons, List.length_append, List.length_cons]
    omega
theorem group_len {row : List (List Int)} {g : List Int} (h : g ∈ row) : g.length ≤ row.flatten.length := by
  induction row with
  | nil => cases h
  | cons k row ih =>
    rw [List.flatten_cons, List.length_append]
    rcases List.mem_cons.mp h with e | e
    · rw [e]; omega
    · have := ih e; omega
theorem flat_len {ks p : List Int} {row : List (List Int)} (o : Dl.RowOk ks p row) : row.flatten.length ≤ ks.length := sub_len _ _ o.nd (Dl.flat_sub o)
/-- the tuples' addresses beside their ints -/
theorem t2_pairs {K : PySem.W.Frag} {H : Hp} : ∀ {vs : List V} {row : List (List Int)}, Paired (T1 K H) vs row → ∃ xs : List (Addr × List Int), vs = xs.map (fun p => V.ref p.1) ∧ row = xs.map (·.2) ∧ ∀ p ∈ xs, SqT K H p.1 (p.2.map V.int)
  | _, _, .nil => ⟨[], rfl, rfl, fun _ h => by cases h⟩
  | _, _, .cons (b := g) r t => by
    obtain ⟨a, rfl, ha⟩ := r
    obtain ⟨xs, e1, e2, h⟩ := t2_pairs t
    refine ⟨(a, g) :: xs, by rw [e1]; rfl, by rw [e2]; rfl, fun p hp => ?_⟩
    rcases List.mem_cons.mp hp with e | e
    · rw [e]; exact ha
    · exact h p e
theorem pairs_t2 {K : PySem.W.Frag} {H : Hp} : ∀ {xs : List (Addr × List Int)}, (∀ p ∈ xs, SqT K H p.1 (p.2.map V.int)) → Paired (T1 K H) (xs.map fun p => V.ref p.1) (xs.map (·.2))
  | [], _ => .nil
  | p :: xs, h => .cons ⟨p.1, rfl, h p List.mem_cons_self⟩ (pairs_t2 fun q hq => h q (List.mem_cons_of_mem _ hq))
theorem sh_l0 : SeqAt.shaped (.list []) = true := by
  unfold SeqAt.shaped
  simp [PyData.canLay0, PyData.canLayAll0, PyData.depth, PyData.depthAll]
theorem eqv_l0 : PyData.eqv (.list []) (.list []) = true := SeqAt.eqv_refl _ (SeqAt.canLay_of_shaped sh_l0)
section
variable {P : Program} {w : World} {K : PySem.W.Frag} {mg : Str → Option Value} {base : Heap}
def spIsGroup (K : PySem.W.Frag) : Sp := fun vs H Q _ => ∃ (u v : V) (ms : Dl.Lns) (g : List Int), vs = [u, v] ∧ LnV K H u ms ∧ T1 K H v g ∧ g.Pairwise (· < ·) ∧ (∀ x ∈ g, x ∈ Dl.keys ms) ∧ g.length ≤ 100 ∧ ∀ H', Same H H' → Q (.bl true) H'
theorem ok_is_group (T : Txt K mg) (G : Giv K mg d_is_group) (hn : Has P w K mg base "is_number" 1 ["thing"] spNum) : Has P w K mg base "is_group" 2 ["names", "thing"] (spIsGroup K) := by
  refine has_mk (d := d_is_group) (N := ["names", "thing", "name", "at"]) G ⟨rfl, rfl, rfl, by decide +kernel, rfl, by decide +kernel, by decide +kernel⟩ (fun _ _ _ _ _ _ us hl => match us, hl with | [_, _], _ => rfl) (fun vs H Q E h => by obtain ⟨u, v, i, j, rfl, _⟩ := h; rfl) (fun f cdv A outer s H vs Q E hr h => ?_)
  obtain ⟨u, v, ms, ns, rfl, ⟨d, kvs, rfl, hd, pr⟩, ⟨a, rfl, ht⟩, hs, hk, hl, k⟩ := h
  have nd : (["names", "thing", "name", "at"] : List Str).Nodup := by decide +kernel
  refine ⟨_, pss_cons (ps_if (PW.pt (pw_or (pt_not (pt_val (pe_callB call_isi (by rfl) T.isinstance b_isinstance (pa_cons (pv 1) (pa_cons (pe_bltn (v := .ty "tuple") (by rfl) T.tuple b_tuple rfl) pa_nil)))))
      (pw_or1 (pt_not (pt_val (pe_callB (cr_all rfl) (by rfl) T.all b_all (pa_cons (pe_lc (own := [("name", 2)]) (g := gName 2) (tt := tYes) rfl nd (pi_tup (pv 1)) (blkOk_by (N := ["names", "thing", "name", "at"]) (sc := d_is_group.scope) (by decide +kernel))
        (fun _ _ _ _ _ => pg_name (i := 2) nd rfl (Or.inl rfl)) (fun _ _ _ _ _ => pts_nil)
        (fun _ _ _ _ _ => pe_and (pe_has hn hr (pa_cons (pv 2) pa_nil)) (pe_one (pe_cmp (pc_din (hu_of hr) (pv 2) (pv 0)) rfl)))) pa_nil)))))))
      (pss_one (ps_ret pe_bl)) pss_nil)
    (pss_one (ps_ret (pe_callB (cr_all rfl) (by rfl) T.all b_all (pa_cons (pe_lc (own := [("at", 3)]) (g := gName 3) (tt := tYes) rfl nd
        (pi_range2 (by rfl) T.range (pa_cons pe_int (pa_cons (pe_callB call_len_seq (by rfl) T.len b_len (pa_cons (pv 1) pa_nil)) pa_nil))) (blkOk_by (N := ["names", "thing", "name", "at"]) (sc := d_is_group.scope) (by decide +kernel))
        (fun _ _ _ _ _ => pg_name (i := 3) nd rfl (Or.inl rfl)) (fun _ _ _ _ _ => pts_nil)
        (fun _ _ _ _ _ => pe_cmpR op_lt (pe_ix (ixT K rfl) (pv 1) (pe_op op_sub (pv 3) pe_int) (fun _ _ => rfl)) (pe_ix (ixT K rfl) (pv 1) (pv 3) (fun _ _ => rfl)) (nomark _))) pa_nil)))), ?_⟩
  refine ⟨_, rfl, _, _, _, _, true, rfl, .ty "tuple", tyT K ht, kit_tup_tup K, true, rfl, iteF ?_⟩
  refine ⟨_, rfl, a, rfl, ⟨_, ht⟩, fun D hD => lc_tup (K := K) (a := a) (xs := ns.map V.int) (fun i H' => Same H H' ∧ H' D = some (.lst ((List.replicate i true).map V.bl)))
    ⟨sm_new (Same.refl H) hD, upd_same⟩ (fun i H' _ p => (sm_stay p.1).t _ _ ht) ?_ ?_⟩
  · rintro i x H1 hx ⟨s1, e1⟩
    obtain ⟨n, hn, rfl⟩ := int_get hx
    obtain ⟨vv, ev, _⟩ := lp_val pr (hk n (List.mem_of_getElem? hn))
    have il : i < ns.length := (List.getElem?_eq_some_iff.mp hn).1
    refine ⟨rfl, lcY ?_⟩
    refine ⟨_, rfl, n, rfl, true, rfl, ?_⟩
    refine iteT ?_
    refine ⟨_, rfl, _, rfl, d, _, rfl, DGet.k (k := Sum.inl n) (s1 _ _ hd), ?_⟩
    rw [ev]
    refine ⟨_, e1, lt_line (by simp; omega), sm_put s1 hD, ?_⟩
    have := rep_snoc i
    show _ = some (HO.lst ((List.replicate (i + 1) true).map V.bl))
    rw [← this]
    exact upd_same
  · rintro H1 ⟨s1, e1⟩
    refine ⟨D, _, rfl, SqL.of e1, true, by rw [rep_all], iteF ?_⟩
    have ht1 := (sm_stay s1 (K := K)).t _ _ ht
    refine ⟨_, rfl, a, _, rfl, .inr ht1, _, _, rfl, rg2 (by omega) (by rw [List.length_map]; omega), fun D2 hD2 => lc_range (lo := 1) (fun i H' => Same H1 H' ∧ H' D2 = some (.lst ((List.replicate i true).map V.bl)))
      ⟨sm_new (Same.refl H1) hD2, upd_same⟩ ?_ ?_⟩
    · rintro i H2 hi ⟨s2, e2⟩
      have hi' : i + 1 < ns.length := by simp at hi; omega
      have ht2 := (sm_stay s2 (K := K)).t _ _ ht1
      have g1 : ns[i]? = some ns[i] := List.getElem?_eq_getElem (by omega)
      have g2 : ns[i + 1]? = some ns[i + 1] := List.getElem?_eq_getElem hi'
      refine ⟨rfl, lcY ?_⟩
      refine ⟨_, rfl, _, rfl, _, _, rfl, rfl, a, _, _, _, rfl, rfl, ht2, at_of (j := i) (by omega) (int_at g1), _, rfl, _, rfl, a, _, _, _, rfl, rfl, ht2, at_of (j := i + 1) (by omega) (int_at g2), _, _, rfl, rfl, ?_⟩
      have lt : ns[i] < ns[i + 1] := (List.pairwise_iff_getElem.mp hs) i (i + 1) (by omega) hi' (by omega)
      dsimp only
      rw [decide_eq_true lt]
      refine ⟨_, e2, lt_line (by simp; omega), sm_put s2 hD2, ?_⟩
      rw [rep_snoc]
      exact upd_same
    · rintro H2 ⟨s2, e2⟩
      refine ⟨D2, _, rfl, SqL.of e2, ?_⟩
      rw [rep_all]
      exact k _ (s1.trans s2)
def spIsRow (K : PySem.W.Frag) : Sp := fun vs H Q _ => ∃ (u x v : V) (ms : Dl.Lns) (p : List Int) (row : List (List Int)), vs = [u, x, v] ∧ LnV K H u ms ∧ T1 K H x p ∧ T2 K H v row ∧ Dl.RowOk (Dl.keys ms) p row ∧ ms.length ≤ 12 ∧ ∀ H', Same H H' → Q (.bl true) H'
theorem ok_is_row (T : Txt K mg) (G : Giv K mg d_is_row) (hg : Has P w K mg base "is_group" 2 ["names", "thing"] (spIsGroup K)) : Has P w K mg base "is_row" 3 ["names", "pattern", "thing"] (spIsRow K) := by
  refine has_mk (d := d_is_row) (N := ["names", "pattern", "thing", "met", "group", "name", "at"]) G ⟨rfl, rfl, rfl, by decide +kernel, rfl, by decide +kernel, by decide +kernel⟩ (fun _ _ _ _ _ _ us hl => match us, hl with | [_, _, _], _ => rfl) (fun vs H Q E h => by obtain ⟨u, x, v, ms, p, i, rfl, _⟩ := h; rfl) (fun f cdv A outer s H vs Q E hr h => ?_)
  obtain ⟨u, x, v, ms, p, row, rfl, hlv, hx, ⟨a, gs, rfl, ht, pr⟩, ro, h12, k⟩ := h
  have nd : (["names", "pattern", "thing", "met", "group", "name", "at"] : List Str).Nodup := by decide +kernel
  refine ⟨_, pss_cons (ps_if (PW.pt (pw_or (pt_not (pt_val (pe_callB call_isi (by rfl) T.isinstance b_isinstance (pa_cons (pv 2) (pa_cons (pe_bltn (v := .ty "tuple") (by rfl) T.tuple b_tuple rfl) pa_nil)))))
      (pw_or1 (pt_not (pt_val (pe_callB (cr_all rfl) (by rfl) T.all b_all (pa_cons (pe_lc (own := [("group", 4)]) (g := gName 4) (tt := tYes) rfl nd (pi_tup (pv 2)) (blkOk_by (N := ["names", "pattern", "thing", "met", "group", "name", "at"]) (sc := d_is_row.scope) (by decide +kernel))
        (fun _ _ _ _ _ => pg_name (i := 4) nd rfl (Or.inl rfl)) (fun _ _ _ _ _ => pts_nil) (fun _ _ _ _ _ => pe_has hg hr (pa_cons (pv 0) (pa_cons (pv 4) pa_nil)))) pa_nil)))))))
      (pss_one (ps_ret pe_bl)) pss_nil)
    (pss_cons (ps_set (i := 3) nd rfl (Or.inr rfl) (pe_lc2 (own := [("group", 4), ("name", 5)]) (vs1 := [5]) (g := gName 4) (tt := tYes) (g1 := gName 5) (tt1 := tYes) rfl nd (pi_tup (pv 2))
      (blkOk_by (N := ["names", "pattern", "thing", "met", "group", "name", "at"]) (sc := d_is_row.scope) (by decide +kernel)) (by decide)
      (fun _ _ _ _ _ => pg_name (i := 4) nd rfl (Or.inl rfl)) (fun _ _ _ _ _ => pts_nil)
      (fun _ _ _ _ _ => piTup K rfl (pv 4))
      (fun _ _ _ _ _ => pg_name (i := 5) nd rfl (Or.inl rfl)) (fun _ _ _ _ _ => pts_nil) (fun _ _ _ _ _ => pv 5)))
    (pss_cons (ps_if (PW.pt (pw_or (pt_cmpR (op_neD hr.units) (pe_lc (own := [("at", 6), ("name", 5)]) (g := gTup K 2 (gCons (gName 6) (gCons (gName 5) gNil))) rfl nd (pi_enum (by rfl) T.enumerate (pa_cons (pv 3) pa_nil))
        (blkOk_by (N := ["names", "pattern", "thing", "met", "group", "name", "at"]) (sc := d_is_row.scope) (by decide +kernel))
        (fun _ _ _ _ _ => pg_tup rfl (pgs_cons (pg_name (i := 6) nd rfl (Or.inl rfl)) (pgs_cons (pg_name (i := 5) nd rfl (Or.inl rfl)) pgs_nil)))
        (fun _ _ _ _ _ => pts_one (pt_cmpR (opIn K rfl) (pv 5) (pe_slice (slL K rfl) (pv 3) po_none (po_some (pv 6))) (by rfl))) (fun _ _ _ _ _ => pv 5)) (pe_lst pa_nil) (nomark _))
      (pw_or1 (pt_cmpR (op_neD hr.units) (pv 2) (pe_callTy (crTup K rfl) (by rfl) T.tuple b_tuple (pa_cons (pe_callB cr_sortedTT (by rfl) T.sorted b_sorted (pa_cons (pv 2) pa_nil)) pa_nil)) (nomark _)))))
      (pss_one (ps_ret pe_bl)) pss_nil)
    (pss_one (ps_ret (pe_cmpR (op_eqD hr.units) (pe_callTy (crTup K rfl) (by rfl) T.tuple b_tuple (pa_cons (pe_revL (pe_callB cr_sorted (by rfl) T.sorted b_sorted (pa_cons (pe_lc (own := [("group", 4)]) (g := gName 4) (tt := tYes) rfl nd (pi_tup (pv 2))
        (blkOk_by (N := ["names", "pattern", "thing", "met", "group", "name", "at"]) (sc := d_is_row.scope) (by decide +kernel))
        (fun _ _ _ _ _ => pg_name (i := 4) nd rfl (Or.inl rfl)) (fun _ _ _ _ _ => pts_nil) (fun _ _ _ _ _ => pe_callB (crLen K rfl) (by rfl) T.len b_len (pa_cons (pv 4) pa_nil))) pa_nil))) pa_nil)) (pv 1) (nomark _)))))), ?_⟩
  have fl := flat_len ro
  have kl : (Dl.keys ms).length = ms.length := by simp [Dl.keys]
  have rl := row_len ro.ne
  have lp := pr_len pr
  refine ⟨_, rfl, _, _, _, _, true, rfl, .ty "tuple", tyT K ht, kit_tup_tup K, true, rfl, iteF ?_⟩
  refine ⟨_, rfl, a, rfl, ⟨_, ht⟩, fun D hD => lc_tup (K := K) (a := a) (xs := gs) (fun i H' => Same H H' ∧ H' D = some (.lst ((List.replicate i true).map V.bl)))
    ⟨sm_new (Same.refl H) hD, upd_same⟩ (fun i H' _ p => (sm_stay p.1).t _ _ ht) ?_ ?_⟩
  · rintro i y H1 hy ⟨s1, e1⟩
    obtain ⟨g, hgr, hgv⟩ := pr_get pr hy
    have gm := List.mem_of_getElem? hgr
    have gl := group_len gm
    have il : i < row.length := (List.getElem?_eq_some_iff.mp hgr).1
    refine ⟨rfl, lcY ?_⟩
    refine ⟨_, rfl, _, rfl, u, y, ms, g, rfl, hlv.same s1, hgv.same s1, ro.asc g gm, ro.sub g gm, by omega, fun H2 s2 => ?_⟩
    refine ⟨_, s2 _ _ e1, lt_line (by simp; omega), sm_put (s1.trans s2) hD, ?_⟩
    show _ = some (HO.lst ((List.replicate (i + 1) true).map V.bl))
    rw [← rep_snoc i]
    exact upd_same
  rintro H1 ⟨s1, e1⟩
  refine ⟨D, _, rfl, SqL.of e1, true, by rw [rep_all], iteF ?_⟩
  have ht1 := (sm_stay (K := K) s1).t _ _ ht
  refine ⟨_, rfl, a, rfl, ⟨_, ht1⟩, fun M hM => ?_⟩
  have hM0 := sm_none s1 hM
  refine wk (walk_tup (K := K) (a := a) (xs := gs)) (fun i H' => Same H H' ∧ H' M = some (.lst ((row.take i).flatten.map V.int)))
    ⟨sm_new s1 hM, upd_same⟩ (fun i H' _ z => (sm_stay z.1).t _ _ ht) ?_ ?_
  · rintro i y H2 H3 hi ⟨s2, e2⟩ ⟨rfl, hy⟩
    obtain ⟨g, hgr, b, rfl, hb⟩ := pr_get pr hy
    have hb2 := (sm_stay (K := K) s2).t _ _ hb
    refine ⟨rfl, lcY ?_⟩
    refine ⟨_, rfl, b, rfl, ⟨_, hb2⟩, ?_⟩
    refine wk (walk_tup (K := K) (a := b) (xs := g.map V.int)) (fun j H' => Same H H' ∧ H' M = some (.lst (((row.take i).flatten ++ g.take j).map V.int)))
      ⟨s2, by simpa using e2⟩ (fun i H' _ z => (sm_stay z.1).t _ _ hb) ?_ ?_
    · rintro j y H4 H5 hj ⟨s4, e4⟩ ⟨rfl, hy⟩
      obtain ⟨n, hn, rfl⟩ := int_get hy
      have lpre : ((row.take i).flatten ++ g.take j).length ≤ row.flatten.length := by
        conv => rhs; rw [row_split hgr, List.flatten_append, List.flatten_cons, List.length_append, List.length_append]
        rw [List.length_append, List.length_take]
        omega
      refine ⟨rfl, lcY ?_⟩
      refine ⟨_, rfl, _, e4, lt_line (by rw [List.length_map]; omega), sm_put s4 hM0, ?_⟩
      rw [take_snoc hn, ← List.append_assoc, List.map_append (l₁ := (row.take i).flatten ++ g.take j)]
      exact upd_same
    · rintro H4 ⟨s4, e4⟩
      rw [List.length_map, List.take_length] at e4
      refine ⟨s4, ?_⟩
      rw [take_snoc hgr, List.flatten_append]
      simpa using e4
  rintro H2 ⟨s2, e2⟩
  rw [lp, List.take_length] at e2
  refine ⟨_, rfl, M, _, rfl, SqL.of e2, fun D3 hD3 => ?_⟩
  have hD30 := sm_none s2 hD3
  refine lc_it (walk_enum (K := K) (a := M) (xs := row.flatten.map V.int)) (fun i H' => Same H2 H' ∧ H' D3 = some (.lst []))
    ⟨sm_new (Same.refl H2) hD3, upd_same⟩ (fun i H' _ z => SqL.of (z.1 _ _ e2)) ?_ ?_
  · rintro i y H3 H4 hi ⟨s3, e3⟩ ⟨t, x1, x2, rfl, ht3, rfl, y1, y2⟩
    have y1 : V.int (i : Nat) = x1 := Option.some.inj y1
    subst y1
    obtain ⟨n, hn, rfl⟩ := int_get y2
    have s4 := sm_new (o := .tup [.int (i : Nat), .int n]) s3 ht3
    refine ⟨t, _, rfl, SqT.of upd_same, rfl, _, _, rfl, _, _, rfl, rfl, rfl, ?_⟩
    refine ⟨_, rfl, _, rfl, _, rfl, (i : Int), rfl, M, _, rfl, SqL.of (s4 _ _ e2), fun p5 hp5 => ?_⟩
    rw [cut_to (i := i) rfl]
    refine ⟨p5, _, rfl, .inl (SqL.of upd_same), rfl, flat_ints _, _, rfl, ?_⟩
    dsimp only
    rw [if_neg (show ¬ (false = true) by decide), inV_ints]
    have nn : n ∉ row.flatten.take i := fun z => by
      have tnd := ro.nd.sublist (List.take_sublist (i + 1) _)
      rw [take_snoc hn] at tnd
      exact (List.nodup_append.mp tnd).2.2 n z n (List.mem_singleton.mpr rfl) rfl
    rw [decide_eq_false nn]
    exact iteF ⟨sm_new s4 hp5, upd_at (upd_at e3 ht3) hp5⟩
  rintro H3 ⟨s3, e3⟩
  refine ⟨by show 0 ≤ sizeLine; decide, fun Z hZ => ?_⟩
  have s4 := sm_new (o := .lst []) (s2.trans s3) hZ
  refine ⟨.list [], .list [], .lst (SqL.of (upd_at e3 hZ)) .nil, .lst (SqL.of upd_same) .nil, sh_l0, sh_l0, _, rfl, ?_⟩
  rw [eqv_l0]
  refine iteF ?_
  have pr4 := prT1_mono (sm_stay (K := K) s4) pr
  have ht4 := (sm_stay (K := K) s4).t _ _ ht
  obtain ⟨xs, exs, erow, hxs⟩ := t2_pairs pr4
  rw [exs] at ht4
  refine ⟨_, rfl, _, rfl, a, xs, rfl, .inr ht4, fun q hq => ⟨hxs q hq, ro.ne _ (by rw [erow]; exact List.mem_map.mpr ⟨q, hq, rfl⟩)⟩, fun ys p5 pm srt hp5 => ?_⟩
  have eys : ys.map (·.2) = row := Dl.rsrt_uniq ((pm.map (·.2)).trans (by rw [erow])) srt (ro.ord.imp fun {g h} lt => by
    show Dl.lx h g = false
    cases e : Dl.lx h g with
    | false => rfl
    | true =>
      have := Dl.lx_tr g h g lt e
      rw [Dl.lx_irr] at this
      cases this)
  refine ⟨p5, _, rfl, .inl ⟨SqL.of upd_same, fun p6 hp6 => ?_⟩⟩
  have s6 : Same H _ := sm_new (o := .tup (ys.map fun p => V.ref p.1)) (sm_new (o := .lst (ys.map fun p => V.ref p.1)) s4 hp5) hp6
  have t6 : T2 K (upd (upd (upd H3 Z (.lst [])) p5 (.lst (ys.map fun p => V.ref p.1))) p6 (.tup (ys.map fun p => V.ref p.1))) (.ref p6) row := by
    refine ⟨p6, _, rfl, SqT.of upd_same, ?_⟩
    rw [← eys]
    exact prT1_mono ((stay_new hp5).trans (stay_new hp6)) (pairs_t2 fun q hq => hxs q (pm.mem_iff.mp hq))
  have t0 : T2 K (upd (upd (upd H3 Z (.lst [])) p5 (.lst (ys.map fun p => V.ref p.1))) p6 (.tup (ys.map fun p => V.ref p.1))) (.ref a) row := ⟨a, gs, rfl, (sm_stay (K := K) s6).t _ _ ht, prT1_mono (sm_stay s6) pr⟩
  refine ⟨d2 row, d2 row, t0.dp, t6.dp, sh2 _, sh2 _, _, rfl, ?_⟩
  rw [eqv2]
  refine iteF ?_
  have ht6 := (sm_stay (K := K) s6).t _ _ ht
  refine ⟨_, rfl, a, rfl, ⟨_, ht6⟩, fun D4 hD4 => ?_⟩
  have hD40 := sm_none s6 hD4
  refine lc_tup (K := K) (a := a) (xs := gs) (fun i H' => Same H H' ∧ H' D4 = some (.lst (((row.take i).map fun g => ((g.length : Nat) : Int)).map V.int)))
    ⟨sm_new s6 hD4, upd_same⟩ (fun i H' _ p => (sm_stay p.1).t _ _ ht) ?_ ?_
  · rintro i y H7 hy ⟨s7, e7⟩
    obtain ⟨g, hgr, b, rfl, hb⟩ := pr_get pr hy
    have il : i < row.length := (List.getElem?_eq_some_iff.mp hgr).1
    refine ⟨rfl, lcY ?_⟩
    refine ⟨_, rfl, b, _, rfl, .inr ((sm_stay (K := K) s7).t _ _ hb), ?_⟩
    refine ⟨_, e7, lt_line (by simp; omega), sm_put s7 hD40, ?_⟩
    rw [take_snoc hgr, List.map_append, List.map_append, List.length_map]
    exact upd_same
  rintro H7 ⟨s7, e7⟩
  rw [lp, List.take_length] at e7
  refine ⟨D4, _, rfl, SqL.of e7, by rw [List.length_map]; omega, fun ns' p8 pm8 srt8 hp8 => ?_⟩
  have ens : ns' = Dl.isort (row.map fun g => ((g.length : Nat) : Int)) := Dl.isort_eq pm8 srt8
  subst ens
  refine ⟨p8, _, rfl, SqL.of upd_same, fun p9 hp9 => ?_⟩
  rw [← List.map_reverse, ro.szs]
  refine ⟨p9, _, rfl, .inl ⟨SqL.of upd_same, fun pA hpA => ?_⟩⟩
  have s8 : Same H _ := sm_new (o := .tup (p.map V.int)) (sm_new (o := .lst (p.map V.int)) (sm_new (o := .lst ((Dl.isort (row.map fun g => ((g.length : Nat) : Int))).map V.int)) s7 hp8) hp9) hpA
  refine ⟨_, rfl, d1 p, d1 p, T1.dp ⟨pA, rfl, SqT.of upd_same⟩, (hx.same s8).dp, sh1 _, sh1 _, ?_⟩
  rw [eqv1]
  exact k _ s8
end
end Dd

/-! first_bad, is_tree, want_tree, want_places, want_leaf, want_pair, first_day, met_on -/
namespace Dd
open PySem PySem.Spec PyProof.Rows L2 Dr Dh
section
variable {P : Program} {w : World} {K : PySem.W.Frag} {mg : Str → Option Value} {base : Heap}
structure TrV (K : PySem.W.Frag) (C : Addr) (H : Hp) (u v : V) (born : List Int) (days : List (List Int)) (tree : List (List (List Int))) : Prop where
  cal : CalV K C H u born days
  tr : T3 K H v tree
  ok : Dl.TreeOk born days tree
  b12 : born.length ≤ 12
  dl : days.length ≤ 100
theorem TrV.same {C : Addr} {H H' : Hp} {u v : V} {born : List Int} {days : List (List Int)} {tree : List (List (List Int))} (s : Same H H') (h : TrV K C H u v born days tree) : TrV K C H' u v born days tree :=
  ⟨h.cal.mono s, h.tr.same s, h.ok, h.b12, h.dl⟩
def spFirstBad (K : PySem.W.Frag) (C : Addr) : Sp := fun vs H Q _ => ∃ (u v : V) (born : List Int) (days : List (List Int)) (tree : List (List (List Int))), vs = [u, v] ∧ TrV K C H u v born days tree ∧ ∀ H', Same H H' → Q .non H'
theorem ok_first_bad {C : Addr} (T : Txt K mg) (CT : ClT K mg C) (G : Giv K mg d_first_bad) (hw : Has P w K mg base "with_newborn" 1 ["calendar", "lines", "d"] (spWithN K C)) (hb : Has P w K mg base "behind_row" 1 ["lines", "row"] (spBehind K))
    (hi : Has P w K mg base "is_row" 3 ["names", "pattern", "thing"] (spIsRow K)) : Has P w K mg base "first_bad" 4 ["calendar", "rows"] (spFirstBad K C) := by
  refine has_mk (d := d_first_bad) (N := ["calendar", "rows", "lines", "d", "row"]) G ⟨rfl, rfl, rfl, by decide +kernel, rfl, by decide +kernel, by decide +kernel⟩ (fun _ _ _ _ _ _ us hl => match us, hl with | [_, _], _ => rfl) (fun vs H Q E h => by obtain ⟨u, v, ms, row, born, rfl, _⟩ := h; rfl) (fun f cdv A outer s H vs Q E hr h => ?_)
  obtain ⟨u, v, born, days, tree, rfl, ht, q⟩ := h
  have nd : (["calendar", "rows", "lines", "d", "row"] : List Str).Nodup := by decide +kernel
  have hr1 : Room 1 (A.deeper (envOfC d_first_bad.qual d_first_bad.scope s.heap.objs.size f cdv)) := hr.mono (by decide)
  refine ⟨_, pss_cons (ps_set (i := 2) nd rfl (Or.inl rfl) pe_dnewK)
    (pss_cons (ps_for PassesOwn.never rfl (pi_enumT (by rfl) T.enumerate (pa_cons (pv 1) pa_nil)) (pg_tup rfl (pgs_cons (pg_name (i := 3) nd rfl (Or.inl rfl)) (pgs_cons (pg_name (i := 4) nd rfl (Or.inl rfl)) pgs_nil)))
      (pss_cons (ps_set (i := 2) nd rfl (Or.inl rfl) (pe_has hw hr1 (pa_cons (pv 0) (pa_cons (pv 2) (pa_cons (pv 3) pa_nil)))))
      (pss_cons (ps_if (pt_not (pt_val (pe_has hi hr (pa_cons (pv 2) (pa_cons (pe_ix ix_tup (pe_fld (pv 0) rfl) (pv 3) (fun _ _ => rfl)) (pa_cons (pv 4) pa_nil)))))) (pss_one (ps_ret (pv 3))) pss_nil)
      (pss_one (ps_set (i := 2) nd rfl (Or.inl rfl) (pe_has hb hr1 (pa_cons (pv 2) (pa_cons (pv 4) pa_nil))))))))
    (pss_one (ps_ret pe_non))), ?_⟩
  have tok := ht.ok
  obtain ⟨c, rs, rfl, hc, pr⟩ := ht.tr
  have lp := pr_len pr
  have dl := ht.dl
  have tl := tok.len
  refine fun D hD => ?_
  have s0 := sm_new (o := .dK []) (Same.refl H) hD
  refine ⟨_, rfl, c, rs, rfl, (sm_stay s0).t _ _ hc, ?_⟩
  refine for_it (walk_enumT (K := K) (a := c) (xs := rs)) (fun i σ H' => Same H H' ∧ ∃ z z3 z4, σ = [some u, some (.ref c), some z, z3, z4] ∧ LnV K H' z (Dl.pre born tree i))
    ⟨s0, _, none, none, rfl, ⟨D, [], rfl, upd_same, .nil⟩⟩ (fun i σ H' _ h => (sm_stay h.1).t _ _ hc) ?_ ?_
  · rintro i x σ H1 H2 hi ⟨s1, z, z3, z4, rfl, hz⟩ ⟨t, x1, x2, rfl, ht2, rfl, y1, y2⟩
    have y1 : V.int (i : Nat) = x1 := Option.some.inj y1
    subst y1
    have s2 := sm_new (o := .tup [.int (i : Nat), x2]) s1 ht2
    obtain ⟨p, r, e1, e2, ro, eg⟩ := days_at tok (show i < tree.length by omega)
    obtain ⟨r', er', hrv⟩ := pr_get pr y2
    rw [e2] at er'
    have er' := Option.some.inj er'
    subst er'
    obtain ⟨lok, lbn⟩ := Dl.la_ok tok i (by omega)
    obtain ⟨pok, pbn⟩ := Dl.pre_ok tok i (by omega)
    have pl := lines_len pok pbn
    have ll := lines_len lok lbn
    have b12 := ht.b12
    have hz2 : LnV K (upd H1 t (.tup [.int (i : Nat), x2])) z (Dl.pre born tree i) := hz.same (sm_new (Same.refl H1) ht2)
    refine ⟨t, _, rfl, SqT.of upd_same, rfl, _, _, rfl, _, _, rfl, rfl, ?_⟩
    refine ⟨_, rfl, _, rfl, _, rfl, u, z, born, days, _, _, rfl, ht.cal.mono s2, hz2, by omega, by omega, fun z5 H3 s3 hz5 => ?_⟩
    have hz5 : LnV K H3 z5 (Dl.la born tree i) := hz5
    have s03 := s2.trans s3
    obtain ⟨pc, dx, bv, dv, rfl, hp, hb, hd⟩ := ht.cal.mono s03
    obtain ⟨cd, ds, rfl, hcd, prd⟩ := hd
    obtain ⟨dvi, gdv, hdv⟩ := pr_get' prd e1
    refine ⟨_, rfl, _, rfl, pc, C, dx, _, _, rfl, hp, CT.cl, CT.nd, rfl, _, rfl, cd, ds, _, _, rfl, rfl, hcd, atI_nat gdv, _, rfl, ?_⟩
    refine ⟨z5, dvi, x2, _, p, r, rfl, hz5, hdv.t1, hrv.same s03, ro, by omega, fun H4 s4 => ?_⟩
    refine ⟨_, rfl, iteF ?_⟩
    refine ⟨_, rfl, _, rfl, z5, x2, _, r, born, _, p, rfl, hz5.same s4, hrv.same (s03.trans s4), lok, lbn, ro, b12, fun z6 H5 s5 hz6 => ?_⟩
    refine ⟨(s03.trans s4).trans s5, z6, _, _, rfl, ?_⟩
    show LnV K H5 z6 (Dl.br (Dl.la born tree i) (tree.getD i []))
    rw [eg]
    exact hz6
  · rintro σ H1 ⟨s1, z, z3, z4, rfl, hz⟩
    exact q _ s1
def spIsTree (K : PySem.W.Frag) (C : Addr) : Sp := fun vs H Q _ => ∃ (u v : V) (born : List Int) (days : List (List Int)) (tree : List (List (List Int))), vs = [u, v] ∧ TrV K C H u v born days tree ∧ ∀ H', Same H H' → Q (.bl true) H'
theorem bd_is_tree {C : Addr} (T : Txt K mg) (CT : ClT K mg C) (hf : Has P w K mg base "first_bad" 4 ["calendar", "rows"] (spFirstBad K C)) : Body P w K mg base d_is_tree 5 ["calendar", "thing"] (spIsTree K C) := by
  refine body_mk (d := d_is_tree) (N := ["calendar", "thing"]) ⟨rfl, rfl, rfl, by decide +kernel, rfl, by decide +kernel, by decide +kernel⟩ (fun vs H Q E h => by obtain ⟨u, v, ms, row, born, rfl, _⟩ := h; rfl) (fun f cdv A outer s H vs Q E hr h => ?_)
  obtain ⟨u, v, born, days, tree, rfl, ht, q⟩ := h
  refine ⟨_, pss_one (ps_ret (pe_and (pe_callB call_isi (by rfl) T.isinstance b_isinstance (pa_cons (pv 1) (pa_cons (pe_bltn (v := .ty "tuple") (by rfl) T.tuple b_tuple rfl) pa_nil)))
    (pe_and (pe_cmpR op_eq (pe_callB call_len_seq (by rfl) T.len b_len (pa_cons (pv 1) pa_nil)) (pe_callB call_len_seq (by rfl) T.len b_len (pa_cons (pe_fld (pv 0) rfl) pa_nil)) (nomark _))
    (pe_one (pe_cmpR op_isN (pe_has hf hr (pa_cons (pv 0) (pa_cons (pv 1) pa_nil))) pe_non (nomark _)))))), ?_⟩
  obtain ⟨c, rs, rfl, hc, pr⟩ := ht.tr
  obtain ⟨pc, dx, bv, dv, rfl, hp, hb, cd, ds, rfl, hcd, prd⟩ := ht.cal
  refine ⟨_, rfl, _, _, _, _, true, rfl, .ty "tuple", tyT K hc, kit_tup_tup K, true, rfl, iteT ?_⟩
  refine ⟨_, rfl, c, _, rfl, .inr hc, _, rfl, pc, C, dx, _, _, rfl, hp, CT.cl, CT.nd, rfl, cd, _, rfl, .inr hcd, rfl, _, rfl, ?_⟩
  rw [pr_len pr, pr_len prd, ht.ok.len, decide_eq_true rfl]
  refine iteT ?_
  exact ⟨_, rfl, _, rfl, _, _, born, days, tree, rfl, ht, fun H' s' => ⟨rfl, q _ s'⟩⟩
def spWantTree (K : PySem.W.Frag) (C : Addr) : Sp := fun vs H Q _ => ∃ (u v : V) (born : List Int) (days : List (List Int)) (tree : List (List (List Int))), vs = [u, v] ∧ TrV K C H u v born days tree ∧ ∀ H', Same H H' → Q .non H'
theorem ok_want_tree {C : Addr} (T : Txt K mg) (CT : ClT K mg C) (G : Giv K mg d_want_tree) (hf : Has P w K mg base "first_bad" 4 ["calendar", "rows"] (spFirstBad K C)) : Has P w K mg base "want_tree" 5 ["calendar", "rows"] (spWantTree K C) := by
  refine has_mk (d := d_want_tree) (N := ["calendar", "rows", "found"]) G ⟨rfl, rfl, rfl, by decide +kernel, rfl, by decide +kernel, by decide +kernel⟩ (fun _ _ _ _ _ _ us hl => match us, hl with | [_, _], _ => rfl) (fun vs H Q E h => by obtain ⟨u, v, ms, row, born, rfl, _⟩ := h; rfl) (fun f cdv A outer s H vs Q E hr h => ?_)
  obtain ⟨u, v, born, days, tree, rfl, ht, q⟩ := h
  have nd : (["calendar", "rows", "found"] : List Str).Nodup := by decide +kernel
  refine ⟨_, pss_cons (ps_if (pt_cmpR op_ne (pe_callB call_len_seq (by rfl) T.len b_len (pa_cons (pv 1) pa_nil)) (pe_callB call_len_seq (by rfl) T.len b_len (pa_cons (pe_fld (pv 0) rfl) pa_nil)) (nomark _)) (pss_one ps_never) pss_nil)
    (pss_cons (ps_set (i := 2) nd rfl (Or.inl rfl) (pe_has hf hr (pa_cons (pv 0) (pa_cons (pv 1) pa_nil))))
    (pss_one (ps_if (pt_cmpR op_notN (pv 2) pe_non (nomark _)) (pss_one ps_never) pss_nil))), ?_⟩
  obtain ⟨c, rs, rfl, hc, pr⟩ := ht.tr
  obtain ⟨pc, dx, bv, dv, rfl, hp, hb, cd, ds, rfl, hcd, prd⟩ := ht.cal
  refine ⟨_, rfl, c, _, rfl, .inr hc, _, rfl, pc, C, dx, _, _, rfl, hp, CT.cl, CT.nd, rfl, cd, _, rfl, .inr hcd, rfl, _, rfl, ?_⟩
  rw [pr_len pr, pr_len prd, ht.ok.len, decide_eq_true rfl]
  refine iteF ?_
  refine ⟨_, rfl, _, rfl, _, _, born, days, tree, rfl, ht, fun H' s' => ?_⟩
  refine ⟨_, rfl, rfl, _, rfl, ?_⟩
  exact iteF (q _ s')
end
end Dd

/-! want_places, want_leaf, want_pair, first_day, met_on -/
namespace Dd
open PySem PySem.Spec PyProof.Rows L2 Dr Dh
section
variable {P : Program} {w : World} {K : PySem.W.Frag} {mg : Str → Option Value} {base : Heap}
def spWantPl (K : PySem.W.Frag) : Sp := fun vs H Q _ => ∃ (v : V) (n : Nat) (pl : List Int), vs = [.int (n : Nat), v] ∧ T1 K H v pl ∧ Dl.PerOk n pl ∧ n ≤ 100 ∧ ∀ H', Same H H' → Q .non H'
theorem ok_want_places (T : Txt K mg) (G : Giv K mg d_want_places) : Has P w K mg base "want_places" 1 ["many", "places"] (spWantPl K) := by
  refine has_mk (d := d_want_places) (N := ["many", "places", "at", "leaf"]) G ⟨rfl, rfl, rfl, by decide +kernel, rfl, by decide +kernel, by decide +kernel⟩ (fun _ _ _ _ _ _ us hl => match us, hl with | [_, _], _ => rfl) (fun vs H Q E h => by obtain ⟨u, v, ms, rfl, _⟩ := h; rfl) (fun f cdv A outer s H vs Q E hr h => ?_)
  obtain ⟨v, n, pl, rfl, ⟨a, rfl, ha⟩, ok, hn, q⟩ := h
  have nd : (["many", "places", "at", "leaf"] : List Str).Nodup := by decide +kernel
  refine ⟨_, pss_cons (ps_if (pt_cmpR op_ne (pe_callB call_len_seq (by rfl) T.len b_len (pa_cons (pv 1) pa_nil)) (pv 0) (nomark _)) (pss_one ps_never) pss_nil)
    (pss_one (ps_for PassesOwn.never rfl (pi_enumT (by rfl) T.enumerate (pa_cons (pv 1) pa_nil)) (pg_tup rfl (pgs_cons (pg_name (i := 2) nd rfl (Or.inl rfl)) (pgs_cons (pg_name (i := 3) nd rfl (Or.inl rfl)) pgs_nil)))
      (pss_one (ps_if (PW.pt (pw_or (pt_not (pt_chain op_le op_lt pe_int (pv 3) (pv 0))) (pw_or1 (pt_cmpR op_in_seq (pv 3) (pe_slice sl_tup (pv 1) po_none (po_some (pv 2))) (by rfl))))) (pss_one ps_never) pss_nil)))), ?_⟩
  have len := ok.len
  refine ⟨_, rfl, a, _, rfl, .inr ha, _, rfl, rfl, _, rfl, ?_⟩
  rw [List.length_map, len, decide_eq_true rfl]
  refine iteF ?_
  refine ⟨_, rfl, a, _, rfl, ha, ?_⟩
  refine for_it (walk_enumT (K := K) (a := a) (xs := pl.map V.int)) (fun i σ H' => Same H H' ∧ ∃ z2 z3, σ = [some (.int (n : Nat)), some (.ref a), z2, z3])
    ⟨Same.refl H, none, none, rfl⟩ (fun i σ H' _ h => (sm_stay h.1).t _ _ ha) ?_ ?_
  · rintro i x σ H1 H2 hi ⟨s1, z2, z3, rfl⟩ ⟨t, x1, x2, rfl, ht2, rfl, y1, y2⟩
    have y1 : V.int (i : Nat) = x1 := Option.some.inj y1
    subst y1
    obtain ⟨m, hm, rfl⟩ := int_get y2
    have s2 := sm_new (o := .tup [.int (i : Nat), .int m]) s1 ht2
    obtain ⟨j, hj, e⟩ := ok.mem.mp (List.mem_of_getElem? hm)
    have il : i < pl.length := (List.getElem?_eq_some_iff.mp hm).1
    refine ⟨t, _, rfl, SqT.of upd_same, rfl, _, _, rfl, _, _, rfl, rfl, ?_⟩
    refine ⟨_, rfl, _, _, rfl, rfl, _, rfl, ?_⟩
    rw [decide_eq_true (show (0 : Int) ≤ m by omega)]
    refine iteT ⟨_, rfl, _, _, rfl, rfl, _, rfl, ?_⟩
    rw [decide_eq_true (show m < (n : Nat) by omega)]
    refine iteF ?_
    refine ⟨_, rfl, _, rfl, _, rfl, (i : Int), rfl, a, _, rfl, (sm_stay (K := K) s2).t _ _ ha, ?_, fun p5 hp5 => ?_⟩
    · rintro ⟨_, z⟩
      rw [HT.sIx_nat, List.length_map] at z
      omega
    rw [cut_to (i := i) rfl]
    refine ⟨p5, _, rfl, .inr (SqT.of upd_same), rfl, flat_ints _, _, rfl, ?_⟩
    dsimp only
    rw [if_neg (show ¬ (false = true) by decide), inV_ints]
    have nn : m ∉ pl.take i := fun z => by
      have tnd := ok.nd.sublist (List.take_sublist (i + 1) _)
      rw [take_snoc hm] at tnd
      exact (List.nodup_append.mp tnd).2.2 m z m (List.mem_singleton.mpr rfl) rfl
    rw [decide_eq_false nn]
    exact iteF ⟨sm_new s2 hp5, _, _, rfl⟩
  · rintro σ H1 ⟨s1, z2, z3, rfl⟩
    exact q _ s1
def spWantLeaf (K : PySem.W.Frag) (C : Addr) : Sp := fun vs H Q _ => ∃ (u : V) (born : List Int) (days : List (List Int)) (x : Int), vs = [u, .int x] ∧ CalV K C H u born days ∧ 0 ≤ x ∧ x < born.length ∧ ∀ H', Same H H' → Q .non H'
theorem ok_want_leaf {C : Addr} (T : Txt K mg) (CT : ClT K mg C) (G : Giv K mg d_want_leaf) : Has P w K mg base "want_leaf" 1 ["calendar", "x"] (spWantLeaf K C) := by
  refine has_mk (d := d_want_leaf) (N := ["calendar", "x"]) G ⟨rfl, rfl, rfl, by decide +kernel, rfl, by decide +kernel, by decide +kernel⟩ (fun _ _ _ _ _ _ us hl => match us, hl with | [_, _], _ => rfl) (fun vs H Q E h => by obtain ⟨u, v, ms, x, rfl, _⟩ := h; rfl) (fun f cdv A outer s H vs Q E hr h => ?_)
  obtain ⟨u, born, days, x, rfl, ⟨pc, dx, bv, dv, rfl, hp, ⟨b, rfl, hb⟩, hd⟩, x0, x1, q⟩ := h
  refine ⟨_, pss_one (ps_if (pt_not (pt_chain op_le op_lt pe_int (pv 1) (pe_callB call_len_seq (by rfl) T.len b_len (pa_cons (pe_fld (pv 0) rfl) pa_nil)))) (pss_one ps_never) pss_nil), ?_⟩
  refine ⟨_, rfl, _, _, rfl, rfl, _, rfl, ?_⟩
  rw [decide_eq_true x0]
  refine iteT ⟨_, rfl, pc, C, dx, _, _, rfl, hp, CT.cl, CT.nb, rfl, b, _, rfl, .inr hb.sqT, ?_⟩
  rw [List.length_map]
  refine ⟨_, _, rfl, rfl, _, rfl, ?_⟩
  rw [decide_eq_true x1]
  exact iteF (q _ (Same.refl H))
def spWantPair (K : PySem.W.Frag) (C : Addr) : Sp := fun vs H Q _ => ∃ (u : V) (born : List Int) (days : List (List Int)) (x y : Int), vs = [u, .int x, .int y] ∧ CalV K C H u born days ∧ 0 ≤ x ∧ x < born.length ∧ 0 ≤ y ∧ y < born.length ∧ x ≠ y ∧ ∀ H', Same H H' → Q .non H'
theorem ok_want_pair {C : Addr} (T : Txt K mg) (CT : ClT K mg C) (G : Giv K mg d_want_pair) (hl : Has P w K mg base "want_leaf" 1 ["calendar", "x"] (spWantLeaf K C)) : Has P w K mg base "want_pair" 2 ["calendar", "x", "y"] (spWantPair K C) := by
  refine has_mk (d := d_want_pair) (N := ["calendar", "x", "y"]) G ⟨rfl, rfl, rfl, by decide +kernel, rfl, by decide +kernel, by decide +kernel⟩ (fun _ _ _ _ _ _ us hl => match us, hl with | [_, _, _], _ => rfl) (fun vs H Q E h => by obtain ⟨u, v, ms, x, y, rfl, _⟩ := h; rfl) (fun f cdv A outer s H vs Q E hr h => ?_)
  obtain ⟨u, born, days, x, y, rfl, hcal, x0, x1, y0, y1, hxy, q⟩ := h
  refine ⟨_, pss_cons (ps_expr (pe_has hl hr (pa_cons (pv 0) (pa_cons (pv 1) pa_nil)))) (pss_cons (ps_expr (pe_has hl hr (pa_cons (pv 0) (pa_cons (pv 2) pa_nil))))
    (pss_one (ps_if (pt_cmpR op_eq (pv 1) (pv 2) (nomark _)) (pss_one ps_never) pss_nil))), ?_⟩
  refine ⟨_, rfl, _, rfl, u, born, days, x, rfl, hcal, x0, x1, fun H1 s1 => ?_⟩
  refine ⟨_, rfl, _, rfl, u, born, days, y, rfl, hcal.mono s1, y0, y1, fun H2 s2 => ?_⟩
  refine ⟨_, rfl, _, rfl, rfl, _, rfl, ?_⟩
  rw [decide_eq_false (fun e => hxy (by injection e))]
  exact iteF (q _ (s1.trans s2))
def metV : Option Nat → V
  | none => .non
  | some d => .int (d : Nat)
def spFirstDay (K : PySem.W.Frag) (C : Addr) : Sp := fun vs H Q _ => ∃ (u v : V) (born : List Int) (days : List (List Int)) (tree : List (List (List Int))) (x y : Int), vs = [u, v, .int x, .int y] ∧ TrV K C H u v born days tree ∧ ∀ H', Same H H' → Q (metV (Dl.metM born tree x y days.length)) H'
theorem find_range {f : Nat → Bool} {i n : Nat} (hi : i < n) (h : ∀ j < i, f j = false) (hf : f i = true) : (List.range n).find? f = some i := by
  have e : List.range n = List.range i ++ (List.range (n - i)).map (fun j => i + j) := by
    rw [← List.range_add, show i + (n - i) = n by omega]
  rw [e, List.find?_append, List.find?_eq_none.mpr (fun j hj => by rw [h j (List.mem_range.mp hj)]; decide)]
  obtain ⟨k, hk⟩ : ∃ k, n - i = k + 1 := ⟨n - i - 1, by omega⟩
  rw [hk, List.range_succ_eq_map, List.map_cons, List.find?_cons_of_pos (by simpa using hf)]
  rfl
theorem ok_first_day {C : Addr} (T : Txt K mg) (CT : ClT K mg C) (G : Giv K mg d_first_day) (ha : Has P w K mg base "lines_ahead" 2 ["calendar", "tree", "d"] (spAhead K C)) (hb : Has P w K mg base "behind_row" 1 ["lines", "row"] (spBehind K))
    (hw : Has P w K mg base "line_with" 1 ["found", "x"] (spLineW K)) : Has P w K mg base "first_day" 3 ["calendar", "tree", "x", "y"] (spFirstDay K C) := by
  refine has_mk (d := d_first_day) (N := ["calendar", "tree", "x", "y", "d", "found"]) G ⟨rfl, rfl, rfl, by decide +kernel, rfl, by decide +kernel, by decide +kernel⟩ (fun _ _ _ _ _ _ us hl => match us, hl with | [_, _, _, _], _ => rfl) (fun vs H Q E h => by obtain ⟨u, v, ms, row, born, x, y, rfl, _⟩ := h; rfl) (fun f cdv A outer s H vs Q E hr h => ?_)
  obtain ⟨u, v, born, days, tree, x, y, rfl, ht, q⟩ := h
  have nd : (["calendar", "tree", "x", "y", "d", "found"] : List Str).Nodup := by decide +kernel
  have hr1 : Room 1 (A.deeper (envOfC d_first_day.qual d_first_day.scope s.heap.objs.size f cdv)) := hr.mono (by decide)
  refine ⟨_, pss_cons (ps_for PassesOwn.never rfl (pi_range1 (by rfl) T.range (pa_cons (pe_callB call_len_seq (by rfl) T.len b_len (pa_cons (pe_fld (pv 0) rfl) pa_nil)) pa_nil)) (pg_name (i := 4) nd rfl (Or.inl rfl))
      (pss_cons (ps_set (i := 5) nd rfl (Or.inl rfl) (pe_has hw hr1 (pa_cons (pe_has hb hr1 (pa_cons (pe_has ha hr (pa_cons (pv 0) (pa_cons (pv 1) (pa_cons (pv 4) pa_nil)))) (pa_cons (pe_ix ix_tup (pv 1) (pv 4) (fun _ _ => rfl)) pa_nil))) (pa_cons (pv 2) pa_nil))))
      (pss_one (ps_if (PW.pt (pw_and (pt_cmpR op_notN (pv 5) pe_non (nomark _)) (pw_and1 (pt_cmpR op_in_seq (pv 3) (pv 5) (by rfl))))) (pss_one (ps_ret (pv 4))) pss_nil))))
    (pss_one (ps_ret pe_non)), ?_⟩
  have tok := ht.ok
  obtain ⟨c, rs, rfl, hc, pr⟩ := ht.tr
  have dl := ht.dl
  have tl := tok.len
  obtain ⟨pc, dx, bv, dv, rfl, hp, hbv, cd, ds, rfl, hcd, prd⟩ := ht.cal
  have pl := pr_len prd
  refine ⟨_, rfl, pc, C, dx, _, _, rfl, hp, CT.cl, CT.nd, rfl, cd, _, rfl, .inr hcd, _, rfl, by omega, by omega, ?_⟩
  rw [pl, Int.toNat_natCast]
  refine for_it (walk_range (lo := 0) (n := days.length)) (fun i σ H' => Same H H' ∧ (∀ j < i, Dl.meets (Dl.pre born tree (j + 1)) x y = false) ∧ ∃ z4 z5, σ = [some (.ref pc), some (.ref c), some (.int x), some (.int y), z4, z5])
    ⟨Same.refl H, fun j hj => absurd hj (Nat.not_lt_zero j), none, none, rfl⟩ (fun _ _ _ _ _ => trivial) ?_ ?_
  · rintro i z σ H2 H3 hi ⟨s2, hno, z4, z5, rfl⟩ ⟨rfl, rfl⟩
    obtain ⟨p, r, e1, e2, ro, eg⟩ := days_at tok (show i < tree.length by omega)
    obtain ⟨rv, erv, hrv⟩ := pr_get' pr e2
    obtain ⟨lok, lbn⟩ := Dl.la_ok tok i (by omega)
    have ei : (0 : Int) + (i : Int) = ((i : Nat) : Int) := by omega
    show gName 4 (V.int (0 + (i : Int))) _ _ _
    rw [ei]
    have ht2 := ht.same s2
    refine ⟨_, rfl, _, rfl, _, rfl, .ref pc, .ref c, born, days, tree, i, rfl, ht2.cal, ht2.tr, tok, ht.b12, by omega, by omega, fun za H3 s3 hza => ?_⟩
    have s23 := s2.trans s3
    refine ⟨_, rfl, _, rfl, c, _, _, _, rfl, rfl, (sm_stay (K := K) s23).t _ _ hc, at_of (j := i) rfl erv, za, rv, _, r, born, _, p, rfl, hza, hrv.same s23, lok, lbn, ro, ht.b12, fun zb H4 s4 hzb => ?_⟩
    have s24 := s23.trans s4
    have ep : Dl.br (Dl.la born tree i) r = Dl.pre born tree (i + 1) := by
      show _ = Dl.br (Dl.la born tree i) (tree.getD i [])
      rw [eg]
    rw [ep] at hzb
    have miss : Dl.meets (Dl.pre born tree (i + 1)) x y = false → ∀ j < i + 1, Dl.meets (Dl.pre born tree (j + 1)) x y = false := fun h j hj => by
      by_cases e : j = i
      · subst e; exact h
      · exact hno j (by omega)
    refine ⟨_, rfl, zb, Dl.pre born tree (i + 1), x, rfl, hzb, fun l hl z5 hz5 => ?_, fun hl => ?_⟩
    · obtain ⟨al, rfl, hal⟩ := hz5
      have em : Dl.meets (Dl.pre born tree (i + 1)) x y = decide (y ∈ l) := by
        unfold Dl.meets
        rw [hl]
      refine ⟨_, rfl, rfl, _, rfl, iteT ?_⟩
      refine ⟨_, rfl, _, rfl, al, _, rfl, .inr hal, rfl, flat_ints _, _, rfl, ?_⟩
      dsimp only
      rw [if_neg (show ¬ (false = true) by decide), inV_ints]
      by_cases hy : y ∈ l
      · rw [decide_eq_true hy]
        refine iteT ⟨_, rfl, ?_⟩
        have := q _ s24
        unfold Dl.metM at this
        rw [find_range (i := i) hi hno (by rw [em, decide_eq_true hy])] at this
        exact this
      · rw [decide_eq_false hy]
        exact iteF ⟨s24, miss (by rw [em, decide_eq_false hy]), _, _, rfl⟩
    · refine ⟨_, rfl, rfl, _, rfl, iteF ⟨s24, miss ?_, _, _, rfl⟩⟩
      unfold Dl.meets
      rw [hl]
  · rintro σ H2 ⟨s2, hno, z4, z5, rfl⟩
    have := q _ s2
    unfold Dl.metM at this
    rw [List.find?_eq_none.mpr (fun j hj => by rw [hno j (List.mem_range.mp hj)]; decide)] at this
    exact this
def spMetOn (K : PySem.W.Frag) (C : Addr) : Sp := fun vs H Q _ => ∃ (u v : V) (born : List Int) (days : List (List Int)) (tree : List (List (List Int))) (x y : Int), vs = [u, v, .int x, .int y] ∧ TrV K C H u v born days tree ∧ 0 ≤ x ∧ x < born.length ∧ 0 ≤ y ∧ y < born.length ∧ x ≠ y ∧ ∀ H', Same H H' → Q (metV (Dl.metM born tree x y days.length)) H'
theorem bd_met_on {C : Addr} (T : Txt K mg) (hw : Has P w K mg base "want_tree" 5 ["calendar", "rows"] (spWantTree K C)) (hp : Has P w K mg base "want_pair" 2 ["calendar", "x", "y"] (spWantPair K C)) (hf : Has P w K mg base "first_day" 3 ["calendar", "tree", "x", "y"] (spFirstDay K C)) : Body P w K mg base d_met_on 6 ["calendar", "tree", "x", "y"] (spMetOn K C) := by
  refine body_mk (d := d_met_on) (N := ["calendar", "tree", "x", "y"]) ⟨rfl, rfl, rfl, by decide +kernel, rfl, by decide +kernel, by decide +kernel⟩ (fun vs H Q E h => by obtain ⟨u, v, ms, row, born, x, y, rfl, _⟩ := h; rfl) (fun f cdv A outer s H vs Q E hr h => ?_)
  obtain ⟨u, v, born, days, tree, x, y, rfl, ht, x0, x1, y0, y1, hxy, q⟩ := h
  have hr2 : Room 2 (A.deeper (envOfC d_met_on.qual d_met_on.scope s.heap.objs.size f cdv)) := hr.mono (by decide)
  have hr3 : Room 3 (A.deeper (envOfC d_met_on.qual d_met_on.scope s.heap.objs.size f cdv)) := hr.mono (by decide)
  refine ⟨_, pss_cons (ps_expr (pe_has hw hr (pa_cons (pv 0) (pa_cons (pv 1) pa_nil)))) (pss_cons (ps_expr (pe_has hp hr2 (pa_cons (pv 0) (pa_cons (pv 2) (pa_cons (pv 3) pa_nil)))))
    (pss_one (ps_ret (pe_has hf hr3 (pa_cons (pv 0) (pa_cons (pv 1) (pa_cons (pv 2) (pa_cons (pv 3) pa_nil)))))))), ?_⟩
  refine ⟨_, rfl, _, rfl, u, v, born, days, tree, rfl, ht, fun H1 s1 => ?_⟩
  refine ⟨_, rfl, _, rfl, _, rfl, u, born, days, x, y, rfl, ht.cal.mono s1, x0, x1, y0, y1, hxy, fun H2 s2 => ?_⟩
  refine ⟨_, rfl, _, rfl, _, rfl, _, rfl, u, v, born, days, tree, x, y, rfl, ht.same (s1.trans s2), fun H3 s3 => ?_⟩
  exact q _ ((s1.trans s2).trans s3)
end
end Dd

/-! pair_chance, pairs_of, first_days -/
namespace Dd
open PySem PySem.Spec PyProof.Rows L2 Dr Dh
def psum (p : List Int) : Int := (p.map fun s => s * (s - 1)).sum
def pch (many : Int) (p : List Int) : Int × Int := mks (psum p) (many * (many - 1))
theorem sq_bd {a : Int} (h2 : 2 ≤ a) (h12 : a ≤ 12) : 0 < a * (a - 1) ∧ a * (a - 1) ≤ 132 := by
  constructor
  · exact Int.mul_pos (by omega) (by omega)
  · have := Int.mul_le_mul h12 (show a - 1 ≤ 11 by omega) (by omega) (by decide)
    omega
theorem psum_bd {p : List Int} (h : Dl.Pat p) : 0 ≤ psum p ∧ psum p < 1000 := by
  rcases h.cases with rfl | ⟨a, rfl, h2, h3⟩ | ⟨a, b, rfl, h2, h3, h4⟩
  · decide
  · have := sq_bd h2 h3
    simp only [psum, List.map_cons, List.map_nil, List.sum_cons, List.sum_nil]
    omega
  · have := sq_bd (a := a) (by omega) (by omega)
    have := sq_bd (a := b) (by omega) (by omega)
    simp only [psum, List.map_cons, List.map_nil, List.sum_cons, List.sum_nil]
    omega
theorem pch_shr {many : Int} {p : List Int} (h : Dl.Pat p) (h2 : 2 ≤ many) (h12 : many ≤ 12) : Shr 10 (pch many p) := by
  have hs := psum_bd h
  have hm := sq_bd h2 h12
  have := mks_bd (n := psum p) (d := many * (many - 1)) (b := 10) (by omega) (by omega)
  exact ⟨mks_pos hm.1, this.1, this.2⟩
def FP (K : PySem.W.Frag) (H : Hp) (kv : Key × V) (f : Int × (Int × Int)) : Prop := kv.1 = Sum.inl f.1 ∧ T11 K H kv.2 f.2
/-- (number, share) -/
def TP (K : PySem.W.Frag) (H : Hp) (v : V) (f : Int × (Int × Int)) : Prop := ∃ a u, v = .ref a ∧ SqT K H a [.int f.1, u] ∧ T11 K H u f.2
def PRt (K : PySem.W.Frag) (H : Hp) (v : V) (fs : List (Int × (Int × Int))) : Prop := ∃ a vs, v = .ref a ∧ SqT K H a vs ∧ Paired (TP K H) vs fs
theorem prFP_mono {K : PySem.W.Frag} {H H' : Hp} {kvs : List (Key × V)} {fs : List (Int × (Int × Int))} (s : Stay K H H') (h : Paired (FP K H) kvs fs) : Paired (FP K H') kvs fs := pr_mono h fun _ _ z => ⟨z.1, z.2.mono s⟩
theorem TP.mono {K : PySem.W.Frag} {H H' : Hp} {v : V} {f : Int × (Int × Int)} (s : Stay K H H') (h : TP K H v f) : TP K H' v f := by
  obtain ⟨a, u, e, h1, h2⟩ := h
  exact ⟨a, u, e, s.t _ _ h1, h2.mono s⟩
theorem PRt.mono {K : PySem.W.Frag} {H H' : Hp} {v : V} {fs : List (Int × (Int × Int))} (s : Stay K H H') (h : PRt K H v fs) : PRt K H' v fs := by
  obtain ⟨a, vs, e, h1, h2⟩ := h
  exact ⟨a, vs, e, s.t _ _ h1, pr_mono h2 fun _ _ z => z.mono s⟩
theorem fp_keys {K : PySem.W.Frag} {H : Hp} : ∀ {kvs : List (Key × V)} {fs : List (Int × (Int × Int))}, Paired (FP K H) kvs fs → kvs.map (·.1) = (fs.map (·.1)).map Sum.inl
  | _, _, .nil => rfl
  | _, _, .cons r t => by
    rw [List.map_cons, List.map_cons, List.map_cons, fp_keys t, r.1]
theorem fp_val {K : PySem.W.Frag} {H : Hp} : ∀ {kvs : List (Key × V)} {fs : List (Int × (Int × Int))} {i : Nat} {f : Int × (Int × Int)}, Paired (FP K H) kvs fs → (fs.map (·.1)).Nodup → fs[i]? = some f → ∃ v, valV kvs (Sum.inl f.1) = some v ∧ T11 K H v f.2
  | _, _, _, _, .nil, _, e => by simp at e
  | (k, v) :: kvs, f0 :: fs, 0, f, .cons r t, nd, e => by
    have e : f0 = f := by simpa using e
    subst e
    exact ⟨v, valV_pos r.1, r.2⟩
  | (k, v) :: kvs, f0 :: fs, i + 1, f, .cons r t, nd, e => by
    have e : fs[i]? = some f := by simpa using e
    have nd' := List.nodup_cons.mp nd
    obtain ⟨u, h1, h2⟩ := fp_val t nd'.2 e
    refine ⟨u, ?_, h2⟩
    rw [valV_neg]
    · exact h1
    · intro z
      have z2 : k = Sum.inl f0.1 := r.1
      have z3 : k = Sum.inl f.1 := z
      rw [z2] at z3
      have z4 : f0.1 = f.1 := by injection z3
      refine nd'.1 ?_
      show f0.1 ∈ _
      rw [z4]
      exact List.mem_map.mpr ⟨f, List.mem_of_getElem? e, rfl⟩
theorem fp_put {K : PySem.W.Frag} {H : Hp} {kvs : List (Key × V)} {fs : List (Int × (Int × Int))} {k : Int} {v : V} {q : Int × Int} (h : Paired (FP K H) kvs fs) (n : k ∉ fs.map (·.1)) (hv : T11 K H v q) : Paired (FP K H) (putK kvs (Sum.inl k) v) (fs ++ [(k, q)]) := by
  have e : (kvs.any fun kv => decide (kv.1 = Sum.inl k)) = false := by
    rw [List.any_eq_false]
    intro kv hkv
    have hm : kv.1 ∈ kvs.map (·.1) := List.mem_map.mpr ⟨kv, hkv, rfl⟩
    rw [fp_keys h] at hm
    obtain ⟨j, hj, ej⟩ := List.mem_map.mp hm
    intro z
    have z := of_decide_eq_true z
    rw [z] at ej
    have : j = k := by injection ej
    exact n (this ▸ hj)
  unfold putK
  rw [e, if_neg (by decide)]
  exact pr_snoc h ⟨rfl, hv⟩
section
variable {P : Program} {w : World} {K : PySem.W.Frag} {mg : Str → Option Value} {base : Heap}
def spPairCh (K : PySem.W.Frag) : Sp := fun vs H Q _ => ∃ (v : V) (many : Int) (p : List Int), vs = [.int many, v] ∧ T1 K H v p ∧ Dl.Pat p ∧ 2 ≤ many ∧ many ≤ 12 ∧ ∀ z H', Same H H' → T11 K H' z (pch many p) → Q z H'
theorem ok_pair_chance (T : Txt K mg) (G : Giv K mg d_pair_chance) (hs : Has P w K mg base "share" 2 ["n", "d"] (spMks K)) : Has P w K mg base "pair_chance" 3 ["many", "pattern"] (spPairCh K) := by
  refine has_mk (d := d_pair_chance) (N := ["many", "pattern", "size"]) G ⟨rfl, rfl, rfl, by decide +kernel, rfl, by decide +kernel, by decide +kernel⟩ (fun _ _ _ _ _ _ us hl => match us, hl with | [_, _], _ => rfl) (fun vs H Q E h => by obtain ⟨u, v, ms, rfl, _⟩ := h; rfl) (fun f cdv A outer s H vs Q E hr h => ?_)
  obtain ⟨v, many, p, rfl, ⟨a, rfl, ha⟩, hp, h2, h12, q⟩ := h
  have nd : (["many", "pattern", "size"] : List Str).Nodup := by decide +kernel
  refine ⟨_, pss_one (ps_ret (pe_has hs hr (pa_cons (pe_callB (cr_sum rfl) (by rfl) T.sum b_sum (pa_cons (pe_lc (own := [("size", 2)]) (g := gName 2) (tt := tYes) rfl nd (pi_tup (pv 1)) (blkOk_by (N := ["many", "pattern", "size"]) (sc := d_pair_chance.scope) (by decide +kernel))
      (fun _ _ _ _ _ => pg_name (i := 2) nd rfl (Or.inl rfl)) (fun _ _ _ _ _ => pts_nil) (fun _ _ _ _ _ => pe_op op_mul (pv 2) (pe_op op_sub (pv 2) pe_int))) pa_nil))
    (pa_cons (pe_op op_mul (pv 0) (pe_op op_sub (pv 0) pe_int)) pa_nil)))), ?_⟩
  refine ⟨_, rfl, a, rfl, ⟨_, ha⟩, fun D hD => lc_tup (K := K) (a := a) (xs := p.map V.int) (fun i H' => Same H H' ∧ H' D = some (.lst (((p.take i).map fun s => s * (s - 1)).map V.int)))
    ⟨sm_new (Same.refl H) hD, upd_same⟩ (fun i H' _ z => (sm_stay z.1).t _ _ ha) ?_ ?_⟩
  · rintro i x H1 hi ⟨s1, e1⟩
    obtain ⟨n, hn, rfl⟩ := int_get hi
    obtain ⟨n2, n12⟩ := size_le hp (List.mem_of_getElem? hn)
    have pl := hp.len
    refine ⟨rfl, lcY ?_⟩
    refine ⟨_, rfl, _, rfl, _, _, rfl, rfl, _, _, rfl, rfl, .inl ⟨by omega, by omega⟩, _, e1, lt_line (by simp; omega), sm_put s1 hD, ?_⟩
    rw [take_snoc hn, List.map_append, List.map_append]
    exact upd_same
  · rintro H1 ⟨s1, e1⟩
    rw [List.length_map, List.take_length] at e1
    have hm := sq_bd h2 h12
    refine ⟨D, _, rfl, SqL.of e1, _, rfl, _, rfl, _, _, rfl, rfl, _, _, rfl, rfl, .inl ⟨by omega, by omega⟩, psum p, many * (many - 1), rfl, hm.1, Nat.lt_of_lt_of_le (show _ < 2 ^ 10 by omega) (Nat.pow_le_pow_right (by decide) (by decide)), fun pz H' s2 hz => ?_⟩
    exact q _ _ (s1.trans s2) ⟨pz, rfl, hz⟩
def spPairsOf (K : PySem.W.Frag) : Sp := fun vs H Q _ => ∃ (d : Addr) (kvs : List (Key × V)) (fs : List (Int × (Int × Int))), vs = [.ref d] ∧ H d = some (.dK kvs) ∧ Paired (FP K H) kvs fs ∧ (fs.map (·.1)).Pairwise (· < ·) ∧ fs.length < 60 ∧ ∀ z H', Same H H' → PRt K H' z (fs.filter fun f => decide (0 < f.2.1)) → Q z H'
theorem ok_pairs_of (T : Txt K mg) (G : Giv K mg d_pairs_of) : Has P w K mg base "pairs_of" 1 ["found"] (spPairsOf K) := by
  refine has_mk (d := d_pairs_of) (N := ["found", "key"]) G ⟨rfl, rfl, rfl, by decide +kernel, rfl, by decide +kernel, by decide +kernel⟩ (fun _ _ _ _ _ _ us hl => match us, hl with | [_], _ => rfl) (fun vs H Q E h => by obtain ⟨u, v, ms, rfl, _⟩ := h; rfl) (fun f cdv A outer s H vs Q E hr h => ?_)
  obtain ⟨d, kvs, fs, rfl, hd, pr, srt, hl, q⟩ := h
  have nd : (["found", "key"] : List Str).Nodup := by decide +kernel
  have hu := hu_of hr
  refine ⟨_, pss_one (ps_ret (pe_callTy (crTup K rfl) (by rfl) T.tuple b_tuple (pa_cons (pe_lc (own := [("key", 1)]) (g := gName 1) rfl nd (pi_list (pe_callB (call_sortedDI rfl) (by rfl) T.sorted b_sorted (pa_cons (pv 0) pa_nil)))
    (blkOk_by (N := ["found", "key"]) (sc := d_pairs_of.scope) (by decide +kernel))
    (fun _ _ _ _ _ => pg_name (i := 1) nd rfl (Or.inl rfl)) (fun _ _ _ _ _ => pts_one (pt_cmpR op_gt (pe_ix (ixT K rfl) (pe_dget hu (pv 0) (pv 1) (fun _ _ => rfl)) pe_int (fun _ _ => rfl)) pe_int (nomark _)))
    (fun _ _ _ _ _ => pe_tup (pa_cons (pv 1) (pa_cons (pe_dget hu (pv 0) (pv 1) (fun _ _ => rfl)) pa_nil)))) pa_nil))), ?_⟩
  have ndk : (fs.map (·.1)).Nodup := srt.imp fun h e => by omega
  refine ⟨_, rfl, d, kvs, fs.map (·.1), rfl, .inl hd, fp_keys pr, by rw [List.length_map]; omega, fun ys p1 pm st hp1 => ?_⟩
  have ey : ys = fs.map (·.1) := Dl.srt_uniq pm st (srt.imp fun h => by omega)
  subst ey
  have s1 := sm_new (o := .lst ((fs.map (·.1)).map V.int)) (Same.refl H) hp1
  refine ⟨p1, rfl, ⟨_, SqL.of upd_same⟩, fun D hD => ?_⟩
  have hD0 := sm_none s1 hD
  have s2 := sm_new (o := .lst []) s1 hD
  have hpD : p1 ≠ D := ne_of_none upd_same hD
  refine lc_list (K := K) (a := p1) (xs := (fs.map (·.1)).map V.int) (fun i H' => Same H H' ∧ H' p1 = some (.lst ((fs.map (·.1)).map V.int)) ∧ ∃ vs, H' D = some (.lst vs) ∧ Paired (TP K H') vs ((fs.take i).filter fun f => decide (0 < f.2.1)))
    ⟨s2, upd_at upd_same hD, [], upd_same, .nil⟩ (fun i H' _ z => SqL.of z.2.1) ?_ ?_
  · rintro i x H1 hi ⟨s3, e3, vs, eD, prD⟩
    obtain ⟨n, hn, rfl⟩ := int_get hi
    rw [List.getElem?_map] at hn
    cases hf : fs[i]? with
    | none => rw [hf] at hn; cases hn
    | some f =>
    rw [hf] at hn
    have hn : f.1 = n := Option.some.inj hn
    subst hn
    obtain ⟨v, ev, av, rfl, hv⟩ := fp_val pr ndk hf
    have hv3 := (sm_stay (K := K) s3).t _ _ hv
    have zz := filt_snocA (q := fun f : Int × (Int × Int) => decide (0 < f.2.1)) hf
    have il : i < fs.length := (List.getElem?_eq_some_iff.mp hf).1
    have lv := pr_len prD
    have ll : ((fs.take i).filter fun f : Int × (Int × Int) => decide (0 < f.2.1)).length ≤ 60 := Nat.le_trans (List.length_filter_le _ _) (by rw [List.length_take]; omega)
    have dg : DGet H1 d (.int f.1) (some (.ref av)) := ev ▸ DGet.k (k := Sum.inl f.1) (s3 _ _ hd)
    refine ⟨rfl, ?_⟩
    refine ⟨_, rfl, _, rfl, d, _, rfl, dg, av, _, 0, _, rfl, rfl, hv3, at_of (j := 0) rfl rfl, _, _, rfl, rfl, _, rfl, ?_⟩
    by_cases c : 0 < f.2.1
    · rw [decide_eq_true c, if_pos rfl] at zz
      rw [decide_eq_true c]
      refine iteT ⟨_, rfl, _, rfl, _, rfl, d, _, rfl, dg, by show 2 ≤ sizeLine; decide, fun t ht => ?_⟩
      refine ⟨_, upd_at eD ht, lt_line (by omega), sm_put (sm_new s3 ht) hD0, (upd_ne hpD).trans (upd_at e3 ht), _, upd_same, ?_⟩
      rw [zz]
      have st := stay_lst (K := K) (o := .lst (vs ++ [.ref t])) (upd_at (o' := .tup [.int f.1, .ref av]) eD ht)
      exact pr_snoc (pr_mono prD fun _ _ z => z.mono ((stay_new ht).trans st)) ⟨t, .ref av, rfl, st.t _ _ (SqT.of upd_same), av, rfl, st.t _ _ ((stay_new ht).t _ _ hv3)⟩
    · rw [decide_eq_false c, if_neg (by decide), List.append_nil] at zz
      rw [decide_eq_false c]
      refine iteF ⟨s3, e3, vs, eD, ?_⟩
      rw [zz]
      exact prD
  · rintro H1 ⟨s3, e3, vs, eD, prD⟩
    rw [List.length_map, List.length_map, List.take_length] at prD
    refine ⟨D, _, rfl, .inl ⟨SqL.of eD, fun l hl => ?_⟩⟩
    exact q _ _ (sm_new s3 hl) ⟨l, _, rfl, SqT.of upd_same, pr_mono prD fun _ _ z => z.mono (stay_new hl)⟩
end
end Dd

/-! first_days, meeting -/
namespace Dd
open PySem PySem.Spec PyProof.Rows L2 Dr Dh
def lfS (cs : List (Int × Int)) (f : Nat) : Nat → Int × Int
  | 0 => (1, 1)
  | i + 1 => tms (lfS cs f i) (mns (1, 1) (cs.getD (f + i) (0, 1)))
def fdL (cs : List (Int × Int)) (f n : Nat) : List (Int × (Int × Int)) := (List.range n).map fun i => (((f + i : Nat) : Int), tms (lfS cs f i) (cs.getD (f + i) (0, 1)))
def fds (cs : List (Int × Int)) (f D : Nat) : List (Int × (Int × Int)) := (fdL cs f (D - f) ++ [((D : Int), lfS cs f (D - f))]).filter fun q => decide (0 < q.2.1)
def csOf (born : List Int) (days : List (List Int)) : List (Int × Int) := (List.range days.length).map fun i => pch (Dl.alv born days i) (days.getD i [])
def mtg (born : List Int) (days : List (List Int)) (bx b : Int) : List (Int × (Int × Int)) := fds (csOf born days) (if b > bx then b else bx).toNat days.length
theorem shr_one : Shr 1 (1, 1) := ⟨by decide, by decide, by decide⟩
theorem lfS_shr {cs : List (Int × Int)} {f : Nat} (h : ∀ c ∈ cs, Shr 10 c) : ∀ i, f + i ≤ cs.length → Shr (1 + 12 * i) (lfS cs f i)
  | 0, _ => shr_one
  | i + 1, hi => by
    have ih := lfS_shr (f := f) h i (by omega)
    have hc : cs[f + i]? = some cs[f + i] := List.getElem?_eq_getElem (by omega)
    have sc := h cs[f + i] (List.getElem_mem (by omega))
    unfold lfS
    rw [getD_of hc]
    have t := tms_shr ih (mns_shr shr_one sc)
    exact t.mono (by omega)
theorem fdL_keys (cs : List (Int × Int)) (f n : Nat) : (fdL cs f n).map (·.1) = (List.range n).map fun i => ((f + i : Nat) : Int) := by
  unfold fdL
  rw [List.map_map]
  rfl
theorem fdL_succ (cs : List (Int × Int)) (f n : Nat) : fdL cs f (n + 1) = fdL cs f n ++ [(((f + n : Nat) : Int), tms (lfS cs f n) (cs.getD (f + n) (0, 1)))] := by
  unfold fdL
  rw [List.range_succ, List.map_append]; rfl
theorem fdL_new (cs : List (Int × Int)) (f n : Nat) : ((f + n : Nat) : Int) ∉ (fdL cs f n).map (·.1) := by
  rw [fdL_keys]
  intro h
  obtain ⟨i, hi, e⟩ := List.mem_map.mp h
  have := List.mem_range.mp hi
  omega
theorem fds_srt (cs : List (Int × Int)) (f n D : Nat) (q : Int × Int) (h : f + n ≤ D) : ((fdL cs f n ++ [((D : Int), q)]).map (·.1)).Pairwise (· < ·) := by
  rw [List.map_append, fdL_keys, List.pairwise_append]
  refine ⟨?_, List.pairwise_singleton _ _, fun a ha b hb => ?_⟩
  · rw [List.pairwise_map]
    exact List.pairwise_lt_range.imp fun h => by omega
  · obtain ⟨i, hi, e⟩ := List.mem_map.mp ha
    have := List.mem_range.mp hi
    have eb : b = (D : Int) := by simpa using hb
    omega
section
variable {P : Program} {w : World} {K : PySem.W.Frag} {mg : Str → Option Value} {base : Heap}
def spFirstDays (K : PySem.W.Frag) (C : Addr) : Sp := fun vs H Q _ => ∃ (u : V) (born : List Int) (days : List (List Int)) (f : Nat) (L : Addr) (ls : List V) (cs : List (Int × Int)), vs = [u, .int (f : Nat), .ref L] ∧ CalV K C H u born days ∧ H L = some (.lst ls) ∧ Paired (T11 K H) ls cs ∧ (∀ c ∈ cs, Shr 10 c) ∧ cs.length = days.length ∧ f ≤ days.length ∧ days.length ≤ 11 ∧
  ∀ z H', Same H H' → PRt K H' z (fds cs f days.length) → Q z H'
theorem ok_first_days {C : Addr} (T : Txt K mg) (CT : ClT K mg C) (G : Giv K mg d_first_days) (ht : Has P w K mg base "times" 2 ["one", "two"] (spTms K tms)) (hm : Has P w K mg base "minus" 2 ["one", "two"] (spTms K mns)) (hp : Has P w K mg base "pairs_of" 1 ["found"] (spPairsOf K)) : Has P w K mg base "first_days" 3 ["calendar", "first", "chances"] (spFirstDays K C) := by
  refine has_mk (d := d_first_days) (N := ["calendar", "first", "chances", "found", "left", "d"]) G ⟨rfl, rfl, rfl, by decide +kernel, rfl, by decide +kernel, by decide +kernel⟩ (fun _ _ _ _ _ _ us hl => match us, hl with | [_, _, _], _ => rfl) (fun vs H Q E h => by obtain ⟨u, v, ms, x, y, z, t, rfl, _⟩ := h; rfl) (fun f cdv A outer s H vs Q E hr h => ?_)
  obtain ⟨u, born, days, fi, L, ls, cs, rfl, hcal, hL, pr, hsh, lcs, hf, hd11, q⟩ := h
  have nd : (["calendar", "first", "chances", "found", "left", "d"] : List Str).Nodup := by decide +kernel
  have hr1 : Room 1 (A.deeper (envOfC d_first_days.qual d_first_days.scope s.heap.objs.size f cdv)) := hr.mono (by decide)
  obtain ⟨o, mo, ho⟩ := T.one
  refine ⟨_, pss_cons (ps_par (i := 3) (j := 4) rfl nd rfl rfl (by decide) rfl rfl (pa_cons pe_dnewK (pa_cons (pe_glob (v := .ref o) (by rfl) mo rfl) pa_nil)) (by rfl))
    (pss_cons (ps_for PassesOwn.never rfl (pi_range2 (by rfl) T.range (pa_cons (pv 1) (pa_cons (pe_callB call_len_seq (by rfl) T.len b_len (pa_cons (pe_fld (pv 0) rfl) pa_nil)) pa_nil))) (pg_name (i := 5) nd rfl (Or.inl rfl))
      (pss_cons (ps_dput (hu_of hr) (pv 3) (pv 5) (pe_has ht hr (pa_cons (pv 4) (pa_cons (pe_ix ix_list (pv 2) (pv 5) (fun _ _ => rfl)) pa_nil))) rfl)
      (pss_one (ps_set (i := 4) nd rfl (Or.inl rfl) (pe_has ht hr (pa_cons (pv 4) (pa_cons (pe_has hm hr (pa_cons (pe_glob (v := .ref o) (by rfl) mo rfl) (pa_cons (pe_ix ix_list (pv 2) (pv 5) (fun _ _ => rfl)) pa_nil))) pa_nil)))))))
    (pss_cons (ps_dput (hu_of hr) (pv 3) (pe_callB call_len_seq (by rfl) T.len b_len (pa_cons (pe_fld (pv 0) rfl) pa_nil)) (pv 4) rfl)
    (pss_one (ps_ret (pe_has hp hr1 (pa_cons (pv 3) pa_nil)))))), ?_⟩
  obtain ⟨pc, dx, bv, dv, rfl, hpc, hbv, cd, ds, rfl, hcd, prd⟩ := hcal
  have pl := pr_len prd
  refine fun D hD => ?_
  have s0 := sm_new (o := .dK []) (Same.refl H) hD
  refine ⟨_, _, rfl, ?_⟩
  refine ⟨_, rfl, _, rfl, pc, C, dx, _, _, rfl, s0 _ _ hpc, CT.cl, CT.nd, rfl, cd, _, rfl, .inr ((sm_stay s0).t _ _ hcd), _, _, rfl, rg2 (by omega) (by omega), ?_⟩
  rw [pl]
  refine for_it (walk_range (lo := (fi : Nat)) (n := ((days.length : Int) - (fi : Nat)).toNat)) (fun i σ H' => Same H H' ∧ ∃ kvs lv z5, σ = [some (.ref pc), some (.int (fi : Nat)), some (.ref L), some (.ref D), some lv, z5] ∧ H' D = some (.dK kvs) ∧ Paired (FP K H') kvs (fdL cs fi i) ∧ T11 K H' lv (lfS cs fi i))
    ⟨s0, [], .ref o, none, rfl, upd_same, .nil, o, rfl, ho _⟩ (fun _ _ _ _ _ => trivial) ?_ ?_
  · rintro i z σ H2 H3 hi ⟨s2, kvs, lv, z5, rfl, eD, prk, hlv⟩ ⟨rfl, rfl⟩
    have hi2 : fi + i < days.length := by omega
    have hc : cs[fi + i]? = some cs[fi + i] := List.getElem?_eq_getElem (by omega)
    have sc := hsh cs[fi + i] (List.getElem_mem (by omega))
    have sl := lfS_shr hsh i (f := fi) (by omega)
    obtain ⟨cv, ecv, hcv⟩ := pr_get' pr hc
    have e0 : (fi : Int) + (i : Int) = ((fi + i : Nat) : Int) := by omega
    show gName 5 (V.int ((fi : Nat) + (i : Int))) _ _ _
    rw [e0]
    have gc : cs.getD (fi + i) (0, 1) = cs[fi + i] := getD_of hc
    refine ⟨_, rfl, _, rfl, _, rfl, L, _, _, _, rfl, rfl, SqL.of (s2 _ _ hL), atI_nat ecv, lv, cv, _, _, _, _, rfl, hlv, hcv.mono (sm_stay s2), sl, sc, by omega, by decide, by omega, by decide, fun z1 H4 s4 hz1 => ?_⟩
    have eD4 := s4 _ _ eD
    refine ⟨_, rfl, _, rfl, D, _, rfl, DPut.k (k := Sum.inl ((fi + i : Nat) : Int)) eD4 ?_, ?_⟩
    · rw [pr_len prk]
      refine lt_line ?_
      unfold fdL
      rw [List.length_map, List.length_range]
      omega
    have st5 := stay_dK (K := K) (o := .dK (putK kvs (Sum.inl ((fi + i : Nat) : Int)) z1)) eD4
    have s5 : Same H (upd H4 D (.dK (putK kvs (Sum.inl ((fi + i : Nat) : Int)) z1))) := sm_put (s2.trans s4) hD
    have stt := (sm_stay (K := K) s4).trans st5
    refine ⟨_, rfl, _, rfl, _, rfl, L, _, _, _, rfl, rfl, SqL.of (s5 _ _ hL), atI_nat ecv, .ref o, cv, (1, 1), _, 1, 10, rfl, ⟨o, rfl, ho _⟩, hcv.mono (sm_stay s5), shr_one, sc, by decide, by decide, by decide, by decide, fun z2 H6 s6 hz2 => ?_⟩
    refine ⟨lv, z2, _, _, _, _, rfl, (hlv.mono stt).mono (sm_stay s6), hz2, sl, mns_shr shr_one sc, by omega, by decide, by omega, by decide, fun z3 H7 s7 hz3 => ?_⟩
    refine ⟨(s5.trans s6).trans s7, _, z3, _, rfl, s7 _ _ (s6 _ _ upd_same), ?_, ?_⟩
    · rw [fdL_succ, gc]
      exact prFP_mono ((sm_stay s6).trans (sm_stay s7)) (fp_put (prFP_mono stt prk) (fdL_new cs fi i) (hz1.mono st5))
    · show T11 K H7 z3 (tms (lfS cs fi i) (mns (1, 1) (cs.getD (fi + i) (0, 1))))
      rw [gc]
      exact hz3
  · rintro σ H2 ⟨s2, kvs, lv, z5, rfl, eD, prk, hlv⟩
    have en : ((days.length : Int) - (fi : Nat)).toNat = days.length - fi := by omega
    rw [en] at prk hlv
    refine ⟨_, rfl, _, rfl, _, rfl, pc, C, dx, _, _, rfl, s2 _ _ hpc, CT.cl, CT.nd, rfl, cd, _, rfl, .inr ((sm_stay s2).t _ _ hcd), ?_⟩
    rw [pl]
    refine ⟨D, _, rfl, DPut.k (k := Sum.inl ((days.length : Nat) : Int)) eD ?_, ?_⟩
    · rw [pr_len prk]
      refine lt_line ?_
      unfold fdL
      rw [List.length_map, List.length_range]
      omega
    have st3 := stay_dK (K := K) (o := .dK (putK kvs (Sum.inl ((days.length : Nat) : Int)) lv)) eD
    have nk : ((days.length : Nat) : Int) ∉ (fdL cs fi (days.length - fi)).map (·.1) := by
      have := fdL_new cs fi (days.length - fi)
      rw [show fi + (days.length - fi) = days.length by omega] at this
      exact this
    refine ⟨_, rfl, D, _, _, rfl, upd_same, fp_put (prFP_mono st3 prk) nk (hlv.mono st3), fds_srt _ _ _ _ _ (by omega), ?_, fun z H' s' hz => ?_⟩
    · rw [List.length_append]
      unfold fdL
      rw [List.length_map, List.length_range]
      show _ + 1 < 60
      omega
    · exact q _ _ ((sm_put s2 hD).trans s') hz
def spMeeting (K : PySem.W.Frag) (C : Addr) : Sp := fun vs H Q _ => ∃ (u : V) (born : List Int) (days : List (List Int)) (x y bx b : Int), vs = [u, .int x, .int y] ∧ CalV K C H u born days ∧ Dl.CalOk born days ∧ 0 ≤ x ∧ x < born.length ∧ 0 ≤ y ∧ y < born.length ∧ x ≠ y ∧ born[x.toNat]? = some bx ∧ born[y.toNat]? = some b ∧ ∀ z H', Same H H' → PRt K H' z (mtg born days bx b) → Q z H'
theorem ok_meeting {C : Addr} (T : Txt K mg) (CT : ClT K mg C) (G : Giv K mg d_meeting) (hw : Has P w K mg base "want_pair" 2 ["calendar", "x", "y"] (spWantPair K C)) (hc : Has P w K mg base "counts" 2 ["calendar"] (spCnt K C)) (hp : Has P w K mg base "pair_chance" 3 ["many", "pattern"] (spPairCh K)) (hf : Has P w K mg base "first_days" 3 ["calendar", "first", "chances"] (spFirstDays K C)) : Has P w K mg base "meeting" 4 ["calendar", "x", "y"] (spMeeting K C) := by
  refine has_mk (d := d_meeting) (N := ["calendar", "x", "y", "alive", "chances", "d", "pattern"]) G ⟨rfl, rfl, rfl, by decide +kernel, rfl, by decide +kernel, by decide +kernel⟩ (fun _ _ _ _ _ _ us hl => match us, hl with | [_, _, _], _ => rfl) (fun vs H Q E h => by obtain ⟨u, v, ms, x, y, z, t, rfl, _⟩ := h; rfl) (fun f cdv A outer s H vs Q E hr h => ?_)
  obtain ⟨u, born, days, x, y, bx, b, rfl, hcal, ok, x0, x1, y0, y1, hxy, ebx, eb, q⟩ := h
  have nd : (["calendar", "x", "y", "alive", "chances", "d", "pattern"] : List Str).Nodup := by decide +kernel
  have hr2 : Room 2 (A.deeper (envOfC d_meeting.qual d_meeting.scope s.heap.objs.size f cdv)) := hr.mono (by decide)
  refine ⟨_, pss_cons (ps_expr (pe_has hw hr2 (pa_cons (pv 0) (pa_cons (pv 1) (pa_cons (pv 2) pa_nil)))))
    (pss_cons (ps_set (i := 3) nd rfl (Or.inr rfl) (pe_has hc hr2 (pa_cons (pv 0) pa_nil)))
    (pss_cons (ps_setLc (i := 4) (own := [("d", 5), ("pattern", 6)]) (g := gTup K 2 (gCons (gName 5) (gCons (gName 6) gNil))) (tt := tYes) rfl nd rfl (by rfl) (sw_true (by rfl) (by rfl) (by rfl) (by rfl)) (pi_enumT (by rfl) T.enumerate (pa_cons (pe_fld (pv 0) rfl) pa_nil))
      (blkOk_by (N := ["calendar", "x", "y", "alive", "chances", "d", "pattern"]) (sc := d_meeting.scope) (by decide +kernel))
      (fun _ _ _ _ _ => pg_tup rfl (pgs_cons (pg_name (i := 5) nd rfl (Or.inl rfl)) (pgs_cons (pg_name (i := 6) nd rfl (Or.inl rfl)) pgs_nil))) (fun _ _ _ _ _ => pts_nil)
      (fun _ _ _ _ _ => pe_has hp hr (pa_cons (pe_ix (ixL K rfl) (pv 3) (pv 5) (fun _ _ => rfl)) (pa_cons (pv 6) pa_nil))))
    (pss_one (ps_ret (pe_has hf hr (pa_cons (pv 0) (pa_cons (pe_callB (call_max2 rfl) (by rfl) T.max b_max (pa_cons (pe_ix ix_tup (pe_fld (pv 0) rfl) (pv 1) (fun _ _ => rfl)) (pa_cons (pe_ix ix_tup (pe_fld (pv 0) rfl) (pv 2) (fun _ _ => rfl)) pa_nil))) (pa_cons (pv 4) pa_nil)))))))), ?_⟩
  have d11 := ok.dl
  refine ⟨_, rfl, _, rfl, _, rfl, u, born, days, x, y, rfl, hcal, x0, x1, y0, y1, hxy, fun H1 s1 => ?_⟩
  refine ⟨_, rfl, u, born, days, rfl, hcal.mono s1, by omega, fun L H2 s2 hL0 hL => ?_⟩
  have s12 := s1.trans s2
  obtain ⟨pc, dx, bv, dv, rfl, hpc, ⟨ab, rfl, hbv⟩, cd, ds, rfl, hcd, prd⟩ := hcal
  have pl := pr_len prd
  refine ⟨_, rfl, pc, C, dx, _, _, rfl, s12 _ _ hpc, CT.cl, CT.nd, rfl, cd, _, rfl, (sm_stay s12).t _ _ hcd, fun D hD => ?_⟩
  have hD0 := sm_none s12 hD
  have hLD : L ≠ D := ne_of_none hL hD
  refine lc_it (walk_enumT (K := K) (a := cd) (xs := ds)) (fun i H' => Same H H' ∧ H' L = some (.lst ((Dl.cntL born days).map V.int)) ∧ ∃ vs, H' D = some (.lst vs) ∧ Paired (T11 K H') vs ((List.range i).map fun i => pch (Dl.alv born days i) (days.getD i [])))
    ⟨sm_new s12 hD, upd_at hL hD, [], upd_same, .nil⟩ (fun i H' _ z => (sm_stay z.1).t _ _ hcd) ?_ ?_
  · rintro i x H3 H4 hi ⟨s3, eL, vs, eD, prD⟩ ⟨t, x1, x2, rfl, ht, rfl, y1, y2⟩
    have y1 : V.int (i : Nat) = x1 := Option.some.inj y1
    subst y1
    have s4 := sm_new (o := .tup [.int (i : Nat), x2]) s3 ht
    obtain ⟨p, hpt, hx⟩ := pr_get prd y2
    have hid : i < days.length := by omega
    have gl : (Dl.cntL born days)[i]? = some (Dl.alv born days i) := by
      unfold Dl.cntL
      rw [List.getElem?_map, List.getElem?_range (by omega)]; rfl
    have pm := ok.pat p (List.mem_of_getElem? hpt)
    have ps : 2 ≤ p.sum := by
      rcases pm.1.cases with rfl | ⟨a, rfl, h2, h3⟩ | ⟨a, b, rfl, h2, h3, h4⟩
      · exact absurd rfl pm.2
      · simpa using h2
      · simp only [List.sum_cons, List.sum_nil]; omega
    have en := ok.eno i p hpt
    refine ⟨t, _, rfl, SqT.of upd_same, rfl, _, _, rfl, _, _, rfl, rfl, rfl, lcY ?_⟩
    refine ⟨_, rfl, _, rfl, L, _, _, _, rfl, rfl, SqL.of (upd_at eL ht), atI_nat (int_at gl), _, rfl, x2, _, p, rfl, hx.t1.mono (sm_stay s4), pm.1, by omega, ok.alv12 i, fun z5 H5 s5 hz5 => ?_⟩
    have eD5 := s5 _ _ (upd_at (o' := .tup [.int (i : Nat), x2]) eD ht)
    refine ⟨_, eD5, lt_line (by rw [pr_len prD]; simp; omega), sm_put (s4.trans s5) hD0, (upd_ne hLD).trans (s5 _ _ (upd_at eL ht)), _, upd_same, ?_⟩
    have st := stay_lst (K := K) (o := .lst (vs ++ [z5])) eD5
    have st2 := ((stay_new (K := K) (o := .tup [.int (i : Nat), x2]) ht).trans (sm_stay s5)).trans st
    have er : (List.range (i + 1)).map (fun i => pch (Dl.alv born days i) (days.getD i [])) = (List.range i).map (fun i => pch (Dl.alv born days i) (days.getD i [])) ++ [pch (Dl.alv born days i) p] := by
      rw [List.range_succ, List.map_append, List.map_singleton, getD_of hpt]
    rw [er]
    exact pr_snoc (prT11_mono st2 prD) (hz5.mono st)
  · rintro H3 ⟨s3, eL, vs, eD, prD⟩
    rw [pl] at prD
    have hb3 := ((sm_stay (K := K) s3).x _ _ hbv).sqT (K := K)
    have mb := List.mem_of_getElem? ebx
    have mb2 := List.mem_of_getElem? eb
    have bb := ok.bth bx mb
    have bb2 := ok.bth b mb2
    refine ⟨_, rfl, _, rfl, pc, C, dx, _, _, rfl, s3 _ _ hpc, CT.cl, CT.nb, rfl, _, rfl, ab, _, _, _, rfl, rfl, hb3, at_of (j := x.toNat) (by omega) (int_at ebx), ?_⟩
    refine ⟨_, rfl, pc, C, dx, _, _, rfl, s3 _ _ hpc, CT.cl, CT.nb, rfl, _, rfl, ab, _, _, _, rfl, rfl, hb3, at_of (j := y.toNat) (by omega) (int_at eb), ?_⟩
    refine ⟨bx, b, rfl, ?_⟩
    have em : (if b > bx then b else bx) = (((if b > bx then b else bx).toNat : Nat) : Int) := by
      split <;> omega
    have ml : (if b > bx then b else bx).toNat ≤ days.length := by
      split <;> omega
    refine ⟨_, rfl, .ref pc, born, days, (if b > bx then b else bx).toNat, D, vs, csOf born days, by rw [← em]; rfl, ⟨pc, dx, _, _, rfl, s3 _ _ hpc, ⟨ab, rfl, (sm_stay (K := K) s3).x _ _ hbv⟩, X2.mono (sm_stay s3) ⟨cd, ds, rfl, hcd, prd⟩⟩, eD, prD, ?_, by simp [csOf], ml, d11, fun z H' s' hz => ?_⟩
    · intro c hc
      obtain ⟨i, hi, rfl⟩ := List.mem_map.mp hc
      have hid := List.mem_range.mp hi
      have gd : days[i]? = some days[i] := List.getElem?_eq_getElem hid
      have pm := ok.pat _ (List.mem_of_getElem? gd)
      have en := ok.eno i _ gd
      have ps : 2 ≤ days[i].sum := by
        rcases pm.1.cases with e | ⟨a, e, h2, h3⟩ | ⟨a, b, e, h2, h3, h4⟩
        · exact absurd e pm.2
        · rw [e]; simpa using h2
        · rw [e]; simp only [List.sum_cons, List.sum_nil]; omega
      rw [getD_of gd]
      exact pch_shr pm.1 (by omega) (ok.alv12 i)
    · exact q _ _ (s3.trans s') hz
end
end Dd

/-! Calendar(..), made_calendar, renamed -/
namespace Dd
open PySem PySem.Spec PyProof.Rows L2 Dr Dh
structure IniT (K : PySem.W.Frag) (C : Addr) : Prop where
  ex : ∃ (f : Addr) (fd : FuncData), Mk K C f ∧ FunD K d_cal_init.name d_cal_init.qual d_cal_init.params d_cal_init.body d_cal_init.scope [] [] f fd
def spInit (C : Addr) : Sp := fun vs H Q _ => ∃ (p dx : Addr) (b d : V), vs = [.ref p, b, d] ∧ H p = some (.ins C dx []) ∧ Q .non (upd (upd H p (.ins C dx [("born", b)])) p (.ins C dx [("born", b), ("days", d)]))
theorem peFld {X : Cx} (K : PySem.W.Frag) (h : X.K = K) {e : Expr} {f : Str} {pos : Pos} {ta : TE} (he : PE X e ta) (hb : attributeBase e f X.env (eval e X.env) = eval e X.env) : PE X (.Attribute e f pos) (tFld K ta f) := by
  subst h; exact pe_fld he hb
theorem mtIdx {X : Cx} (K : PySem.W.Frag) (h : X.K = K) : MtR X "tuple.index" (rIdxT K) := h ▸ mt_tindex
section
variable {P : Program} {w : World} {K : PySem.W.Frag} {mg : Str → Option Value} {base : Heap}
theorem bd_init {C : Addr} (CT : ClT K mg C) : Body P w K mg base d_cal_init 1 ["self", "born", "days"] (spInit C) := by
  refine body_mk (d := d_cal_init) (N := ["self", "born", "days"]) ⟨rfl, rfl, rfl, by decide +kernel, rfl, by decide +kernel, by decide +kernel⟩ (fun vs H Q E h => by obtain ⟨p, dx, b, d, rfl, _⟩ := h; rfl) (fun f cdv A outer s H vs Q E hr h => ?_)
  obtain ⟨p, dx, b, d, rfl, hp, q⟩ := h
  refine ⟨_, pss_cons (ps_fld (pv 0) (pv 1) rfl) (pss_one (ps_fld (pv 0) (pv 2) rfl)), ?_⟩
  refine ⟨_, rfl, _, rfl, p, C, dx, _, rfl, hp, CT.cl, CT.nb, by decide, ?_⟩
  exact ⟨_, rfl, _, rfl, p, C, dx, _, rfl, upd_same, CT.cl, CT.nd, (by show 1 < 1000; decide), q⟩
/-- Calendar(born, days) makes it -/
theorem made_cal {C : Addr} {H : Hp} {bv dv : V} {born : List Int} {days : List (List Int)} {Q : VK} (hb : X1 H bv born) (hd : X2 K H dv days) (q : ∀ z H', Same H H' → CalV K C H' z born days → Q z H') : ∀ x dx, H x = none → H dx = none → dx ≠ x →
    spInit C (.ref x :: ([bv, dv] ++ [])) (upd (upd H dx (.own x)) x (.ins C dx [])) (fun v H2 => v = .non ∧ Q (.ref x) H2) E0 := by
  intro x dx hx hdx ne
  refine ⟨x, dx, bv, dv, rfl, upd_same, rfl, ?_⟩
  have s : Same H (upd (upd (upd (upd H dx (.own x)) x (.ins C dx [])) x (.ins C dx [("born", bv)])) x (.ins C dx [("born", bv), ("days", dv)])) := sm_put (sm_put (sm_put (sm_put (Same.refl H) hdx) hx) hx) hx
  exact q _ _ s ⟨x, dx, bv, dv, rfl, upd_same, hb.same s, hd.mono (sm_stay s)⟩
def spMadeCal (K : PySem.W.Frag) (C : Addr) : Sp := fun vs H Q _ => ∃ (u v : V) (born : List Int) (days : List (List Int)), vs = [u, v] ∧ X1 H u born ∧ X2 K H v days ∧ Dl.CalOk born days ∧ ∀ z H', Same H H' → CalV K C H' z born days → Q z H'
theorem ok_made_calendar {C : Addr} (T : Txt K mg) (CT : ClT K mg C) (IT : IniT K C) (G : Giv K mg d_made_calendar) (hn : Has P w K mg base "is_number" 1 ["thing"] spNum) (hip : Has P w K mg base "is_pattern" 2 ["thing"] (spPat K)) (hc : Has P w K mg base "counts_of" 1 ["born", "days"] (spCntOf K)) : Has P w K mg base "made_calendar" 3 ["born", "days"] (spMadeCal K C) := by
  refine has_mk (d := d_made_calendar) (N := ["born", "days", "at", "pattern", "leaf", "day", "counts"]) G ⟨rfl, rfl, rfl, by decide +kernel, rfl, by decide +kernel, by decide +kernel⟩ (fun _ _ _ _ _ _ us hl => match us, hl with | [_, _], _ => rfl) (fun vs H Q E h => by obtain ⟨u, v, ms, z, rfl, _⟩ := h; rfl) (fun f cdv A outer s H vs Q E hr h => ?_)
  obtain ⟨u, v, born, days, rfl, ⟨a, rfl, ha⟩, ⟨c, ds, rfl, hcd, pr⟩, ok, q⟩ := h
  have nd : (["born", "days", "at", "pattern", "leaf", "day", "counts"] : List Str).Nodup := by decide +kernel
  have hr1 : Room 1 (A.deeper (envOfC d_made_calendar.qual d_made_calendar.scope s.heap.objs.size f cdv)) := hr.mono (by decide)
  obtain ⟨t2, mml⟩ := T.ml
  obtain ⟨t3, mmd⟩ := T.md
  obtain ⟨fi, fdi, M, FD⟩ := IT.ex
  have FI := (bd_init (P := P) (w := w) (base := base) CT).ok fi fdi FD
  have BI : Binds K fdi ["self", "born", "days"] [] := FD.bindsN (fun _ _ _ _ _ _ us hl => match us, hl with | [_, _, _], _ => rfl)
  refine ⟨_, pss_cons (ps_if (pt_not (pt_chain op_le op_le pe_int (pe_callB call_len_seq (by rfl) T.len b_len (pa_cons (pv 0) pa_nil)) (pe_glob (v := .int 12) (by rfl) mml ⟨_, rfl⟩))) (pss_one ps_never) pss_nil)
    (pss_cons (ps_if (pt_cmpR op_gt (pe_callB call_len_seq (by rfl) T.len b_len (pa_cons (pv 1) pa_nil)) (pe_glob (v := .int 11) (by rfl) mmd ⟨_, rfl⟩) (nomark _)) (pss_one ps_never) pss_nil)
    (pss_cons (ps_for PassesOwn.never rfl (pi_enumT (by rfl) T.enumerate (pa_cons (pv 1) pa_nil)) (pg_tup rfl (pgs_cons (pg_name (i := 2) nd rfl (Or.inl rfl)) (pgs_cons (pg_name (i := 3) nd rfl (Or.inl rfl)) pgs_nil)))
      (pss_one (ps_if (PW.pt (pw_or (pt_not (pt_val (pe_has hip hr (pa_cons (pv 3) pa_nil)))) (pw_or1 (pt_cmpR (op_eqD hr.units) (pv 3) (pe_tup pa_nil) (nomark _))))) (pss_one ps_never) pss_nil)))
    (pss_cons (ps_for PassesOwn.never rfl (pi_enumT (by rfl) T.enumerate (pa_cons (pv 0) pa_nil)) (pg_tup rfl (pgs_cons (pg_name (i := 4) nd rfl (Or.inl rfl)) (pgs_cons (pg_name (i := 5) nd rfl (Or.inl rfl)) pgs_nil)))
      (pss_one (ps_if (PW.pt (pw_or (pt_not (pt_val (pe_has hn hr1 (pa_cons (pv 5) pa_nil)))) (pw_or1 (pt_not (pt_chain op_le op_le pe_int (pv 5) (pe_callB call_len_seq (by rfl) T.len b_len (pa_cons (pv 1) pa_nil))))))) (pss_one ps_never) pss_nil)))
    (pss_cons (ps_set (i := 6) nd rfl (Or.inl rfl) (pe_has hc hr1 (pa_cons (pv 0) (pa_cons (pv 1) pa_nil))))
    (pss_cons (ps_for PassesOwn.never rfl (pi_enumT (by rfl) T.enumerate (pa_cons (pv 1) pa_nil)) (pg_tup rfl (pgs_cons (pg_name (i := 2) nd rfl (Or.inl rfl)) (pgs_cons (pg_name (i := 3) nd rfl (Or.inl rfl)) pgs_nil)))
      (pss_one (ps_if (pt_cmpR op_gt (pe_callB (cr_sumT rfl) (by rfl) T.sum b_sum (pa_cons (pv 3) pa_nil)) (pe_ix ix_list (pv 6) (pv 2) (fun _ _ => rfl)) (nomark _)) (pss_one ps_never) pss_nil)))
    (pss_one (ps_ret (pe_make M FI hr (by rfl) CT.mgC BI .nil pass0 (pa_cons (pv 0) (pa_cons (pv 1) pa_nil)))))))))), ?_⟩
  have pl := pr_len pr
  have n1 := ok.n1
  have n12 := ok.n12
  have dl := ok.dl
  refine ⟨_, rfl, a, _, rfl, .inr ha.sqT, _, _, rfl, rfl, _, rfl, ?_⟩
  rw [List.length_map, decide_eq_true (show (1 : Int) ≤ (born.length : Nat) by omega)]
  refine iteT ⟨_, _, rfl, rfl, _, rfl, ?_⟩
  rw [decide_eq_true (show ((born.length : Nat) : Int) ≤ 12 by omega)]
  refine iteF ?_
  refine ⟨_, rfl, c, _, rfl, .inr hcd, _, _, rfl, rfl, _, rfl, ?_⟩
  rw [decide_eq_false (show ¬ ((11 : Int) < (ds.length : Nat)) by omega)]
  refine iteF ?_
  -- the patterns
  refine ⟨_, rfl, c, ds, rfl, hcd, for_it (walk_enumT (K := K) (a := c) (xs := ds)) (fun i σ H' => Same H H' ∧ ∃ z2 z3, σ = [some (.ref a), some (.ref c), z2, z3, none, none, none])
    ⟨Same.refl H, none, none, rfl⟩ (fun i σ H' _ h => (sm_stay h.1).t _ _ hcd) ?_ ?_⟩
  · rintro i x σ H1 H2 hi ⟨s1, z2, z3, rfl⟩ ⟨t, x1, x2, rfl, ht, rfl, y1, y2⟩
    have s2 := sm_new (o := .tup [x1, x2]) s1 ht
    obtain ⟨p, hp, hx⟩ := pr_get pr y2
    have pm := ok.pat p (List.mem_of_getElem? hp)
    have hx2 := hx.t1.same s2 (K := K)
    refine ⟨t, _, rfl, SqT.of upd_same, rfl, _, _, rfl, _, _, rfl, rfl, ?_⟩
    refine ⟨_, rfl, x2, p, rfl, hx2, pm.1.two, pm.1.srt, by have := pm.1.len; omega, fun H3 s3 => ?_⟩
    refine ⟨_, rfl, iteF ?_⟩
    refine ⟨_, rfl, by show 0 ≤ sizeLine; decide, fun t5 ht5 => ?_⟩
    refine ⟨d1 p, d1 [], ((hx2.same s3).mono (stay_new ht5)).dp, .tup (SqT.of upd_same) .nil, sh1 _, sh1 _, _, rfl, ?_⟩
    rw [eqv_nil, decide_eq_false pm.2]
    exact iteF ⟨sm_new (s2.trans s3) ht5, _, _, rfl⟩
  rintro σ H1 ⟨s1, z2, z3, rfl⟩
  -- the births
  refine ⟨_, rfl, a, _, rfl, ((sm_stay (K := K) s1).x _ _ ha).sqT, for_it (walk_enumT (K := K) (a := a) (xs := born.map V.int)) (fun i σ H' => Same H H' ∧ ∃ z4 z5, σ = [some (.ref a), some (.ref c), z2, z3, z4, z5, none])
    ⟨s1, none, none, rfl⟩ (fun i σ H' _ h => ((sm_stay (K := K) h.1).x _ _ ha).sqT) ?_ ?_⟩
  · rintro i x σ H2 H3 hi ⟨s2, z4, z5, rfl⟩ ⟨t, x1, x2, rfl, ht, rfl, y1, y2⟩
    have s3 := sm_new (o := .tup [x1, x2]) s2 ht
    obtain ⟨n, hn, rfl⟩ := int_get y2
    have bt := ok.bth n (List.mem_of_getElem? hn)
    refine ⟨t, _, rfl, SqT.of upd_same, rfl, _, _, rfl, _, _, rfl, rfl, ?_⟩
    refine ⟨_, rfl, n, rfl, _, rfl, iteF ?_⟩
    refine ⟨_, rfl, _, _, rfl, rfl, _, rfl, ?_⟩
    rw [decide_eq_true bt.1]
    refine iteT ⟨_, rfl, c, _, rfl, .inr ((sm_stay s3).t _ _ hcd), _, _, rfl, rfl, _, rfl, ?_⟩
    rw [pl, decide_eq_true bt.2]
    exact iteF ⟨s3, _, _, rfl⟩
  rintro σ H2 ⟨s2, z4, z5, rfl⟩
  -- the lines
  refine ⟨_, rfl, _, rfl, .ref a, .ref c, born, days, rfl, ⟨a, rfl, (sm_stay (K := K) s2).x _ _ ha⟩, (X2.t2 (X2.mono (sm_stay s2) ⟨c, ds, rfl, hcd, pr⟩)), by omega, fun L H3 s3 hL0 hL => ?_⟩
  have s23 := s2.trans s3
  refine ⟨_, rfl, c, ds, rfl, (sm_stay s23).t _ _ hcd, for_it (walk_enumT (K := K) (a := c) (xs := ds)) (fun i σ H' => Same H H' ∧ H' L = some (.lst ((Dl.cntL born days).map V.int)) ∧ ∃ z2 z3, σ = [some (.ref a), some (.ref c), z2, z3, z4, z5, some (.ref L)])
    ⟨s23, hL, _, _, rfl⟩ (fun i σ H' _ h => (sm_stay h.1).t _ _ hcd) ?_ ?_⟩
  · rintro i x σ H4 H5 hi ⟨s4, eL, z2, z3, rfl⟩ ⟨t, x1, x2, rfl, ht, rfl, y1, y2⟩
    have y1 : V.int (i : Nat) = x1 := Option.some.inj y1
    subst y1
    have s5 := sm_new (o := .tup [.int (i : Nat), x2]) s4 ht
    obtain ⟨p, hp, hx⟩ := pr_get pr y2
    obtain ⟨ap, rfl, hap⟩ := hx.t1.same s5 (K := K)
    have gl : (Dl.cntL born days)[i]? = some (Dl.alv born days i) := by
      unfold Dl.cntL
      rw [List.getElem?_map, List.getElem?_range (by omega)]; rfl
    have en := ok.eno i p hp
    refine ⟨t, _, rfl, SqT.of upd_same, rfl, _, _, rfl, _, _, rfl, rfl, ?_⟩
    refine ⟨_, rfl, ap, p, rfl, hap, _, rfl, _, rfl, L, _, _, _, rfl, rfl, SqL.of (upd_at eL ht), atI_nat (int_at gl), _, _, rfl, rfl, _, rfl, ?_⟩
    rw [decide_eq_false (show ¬ (Dl.alv born days i < p.sum) by omega)]
    exact iteF ⟨s5, upd_at eL ht, _, _, rfl⟩
  rintro σ H4 ⟨s4, eL, z2, z3, rfl⟩
  refine ⟨_, rfl, _, rfl, ?_⟩
  exact made_cal (K := K) (born := born) (days := days) ⟨a, rfl, (sm_stay (K := K) s4).x _ _ ha⟩ (X2.mono (sm_stay s4) ⟨c, ds, rfl, hcd, pr⟩) fun z H' s' hz => q z H' (s4.trans s') hz
def spRenamed (K : PySem.W.Frag) (C : Addr) : Sp := fun vs H Q _ => ∃ (u v : V) (born : List Int) (days : List (List Int)) (pl : List Int), vs = [u, v] ∧ CalV K C H u born days ∧ X1 H v pl ∧ Dl.PerOk born.length pl ∧ born.length ≤ 12 ∧ ∀ z H', Same H H' → CalV K C H' z (Dl.renB born pl) days → Q z H'
theorem bd_renamed {C : Addr} (T : Txt K mg) (CT : ClT K mg C) (IT : IniT K C) (hw : Has P w K mg base "want_places" 1 ["many", "places"] (spWantPl K)) : Body P w K mg base d_renamed 3 ["calendar", "places"] (spRenamed K C) := by
  refine body_mk (d := d_renamed) (N := ["calendar", "places", "born", "leaf"]) ⟨rfl, rfl, rfl, by decide +kernel, rfl, by decide +kernel, by decide +kernel⟩ (fun vs H Q E h => by obtain ⟨u, v, ms, z, t, rfl, _⟩ := h; rfl) (fun f cdv A outer s H vs Q E hr h => ?_)
  obtain ⟨u, v, born, days, pl, rfl, ⟨pc, dx, bv, dv, rfl, hpc, ⟨ab, rfl, hb⟩, hd⟩, ⟨ap, rfl, hap⟩, ok, n12, q⟩ := h
  have nd : (["calendar", "places", "born", "leaf"] : List Str).Nodup := by decide +kernel
  have hr1 : Room 1 (A.deeper (envOfC d_renamed.qual d_renamed.scope s.heap.objs.size f cdv)) := hr.mono (by decide)
  obtain ⟨fi, fdi, M, FD⟩ := IT.ex
  have FI := (bd_init (P := P) (w := w) (base := base) CT).ok fi fdi FD
  have BI : Binds K fdi ["self", "born", "days"] [] := FD.bindsN (fun _ _ _ _ _ _ us hl => match us, hl with | [_, _, _], _ => rfl)
  refine ⟨_, pss_cons (ps_expr (pe_has hw hr1 (pa_cons (pe_callB call_len_seq (by rfl) T.len b_len (pa_cons (pe_fld (pv 0) rfl) pa_nil)) (pa_cons (pv 1) pa_nil))))
    (pss_cons (ps_setLc (i := 2) (own := [("leaf", 3)]) (g := gName 3) (tt := tYes) rfl nd rfl (by rfl) (sw_true (by rfl) (by rfl) (by rfl) (by rfl)) (pi_range1 (by rfl) T.range (pa_cons (pe_callB call_len_seq (by rfl) T.len b_len (pa_cons (pv 1) pa_nil)) pa_nil))
      (blkOk_by (N := ["calendar", "places", "born", "leaf"]) (sc := d_renamed.scope) (by decide +kernel))
      (fun _ _ _ _ _ => pg_name (i := 3) nd rfl (Or.inl rfl)) (fun _ _ _ _ _ => pts_nil)
      (fun _ _ _ _ _ => pe_ix (ixT K rfl) (peFld K rfl (pv 0) rfl) (pe_bmX PySem.F.slot_tuple_index PySem.F.type_tuple_index (mtIdx K rfl) (pv 1) (pa_cons (pv 3) pa_nil)) (fun _ _ => rfl)))
    (pss_one (ps_ret (pe_make M FI hr (by rfl) CT.mgC BI .nil pass0 (pa_cons (pe_callTy (crTupX K rfl) (by rfl) T.tuple b_tuple (pa_cons (pv 2) pa_nil)) (pa_cons (pe_fld (pv 0) rfl) pa_nil)))))), ?_⟩
  have len := ok.len
  refine ⟨_, rfl, pc, C, dx, _, _, rfl, hpc, CT.cl, CT.nb, rfl, ab, _, rfl, .inr hb.sqT, ?_⟩
  rw [List.length_map]
  refine ⟨_, rfl, .ref ap, born.length, pl, rfl, ⟨ap, rfl, hap.sqT⟩, ok, by omega, fun H1 s1 => ?_⟩
  refine ⟨_, rfl, ap, _, rfl, .inr ((sm_stay (K := K) s1).x _ _ hap).sqT, ?_⟩
  rw [List.length_map, len]
  refine ⟨_, rfl, by omega, by omega, fun D hD => ?_⟩
  rw [Int.toNat_natCast]
  have hD0 := sm_none s1 hD
  refine lc_range (lo := 0) (n := born.length) (fun i H' => Same H H' ∧ H' D = some (.lst (((List.range i).map fun (y : Nat) => born.getD (pl.idxOf (y : Int)) 0).map V.int)))
    ⟨sm_new s1 hD, upd_same⟩ ?_ ?_
  · rintro i H2 hi ⟨s2, e2⟩
    have e0 : (0 : Int) + (i : Int) = ((i : Nat) : Int) := by omega
    rw [e0]
    have mi : ((i : Nat) : Int) ∈ pl := ok.mem.mpr ⟨i, hi, rfl⟩
    have hj : pl.idxOf (i : Int) < born.length := by rw [← len]; exact List.idxOf_lt_length_of_mem mi
    have gb : born[pl.idxOf (i : Int)]? = some born[pl.idxOf (i : Int)] := List.getElem?_eq_getElem hj
    have hX := (sm_stay (K := K) s2).x _ _ hap
    refine ⟨rfl, lcY ?_⟩
    refine ⟨_, rfl, pc, C, dx, _, _, rfl, s2 _ _ hpc, CT.cl, CT.nb, rfl, _, rfl, ⟨ap, _, rfl, hX⟩, _, rfl, ap, pl, _, rfl, rfl, hX.sqT, mi, ?_⟩
    refine ⟨ab, _, _, _, rfl, rfl, ((sm_stay (K := K) s2).x _ _ hb).sqT, atI_nat (int_at gb), _, e2, lt_line (by simp; omega), sm_put s2 hD0, ?_⟩
    rw [range_snoc, List.map_append, getD_of gb]
    exact upd_same
  · rintro H2 ⟨s2, e2⟩
    refine ⟨_, rfl, D, _, rfl, SqL.of e2, fun l o hl ho => ?_⟩
    have s3 := sm_new (o := .frz o (.tup ((Dl.renB born pl).map V.int))) s2 hl
    refine ⟨_, rfl, pc, C, dx, _, _, rfl, s3 _ _ hpc, CT.cl, CT.nd, rfl, ?_⟩
    exact made_cal (K := K) (born := Dl.renB born pl) (days := days) ⟨l, rfl, o, upd_same, ho⟩ (hd.mono (sm_stay s3)) fun z H' s' hz => q z H' (s3.trans s') hz
end
end Dd

/-! renamed_tree -/
namespace Dd
open PySem PySem.Spec PyProof.Rows L2 Dr Dh
def lcScope : Expr → Scope | .ListComp _ _ sc _ => sc | _ => d_renamed_tree.scope
def lcElt : Expr → Expr | .ListComp e _ _ _ => e | e => e
def arg0 : Expr → Expr | .Call _ (a :: _) _ _ => a | e => e
def asgV : Stmt → Expr | .Assign _ e _ => e | _ => .Constant .none 0 ⟨0, 0, 0, 0⟩
def forB : Stmt → List Stmt | .For _ _ b _ _ => b | _ => []
def rt1 : Expr := asgV ((forB (d_renamed_tree.body.getD 3 (.Pass ⟨0, 0, 0, 0⟩))).getD 1 (.Pass ⟨0, 0, 0, 0⟩))
def rt2 : Expr := arg0 (arg0 (lcElt rt1))
def rt3 : Expr := arg0 (lcElt rt2)
theorem min_head {L : List Int} {m : Int} (hm : m ∈ L) (h : ∀ y, y ∈ L → m ≤ y) : (Dl.isort L).headD 0 = m := by
  have hm2 := Dl.isort_mem.mpr hm
  have srt := Dl.isort_srt L
  cases e : Dl.isort L with
  | nil => rw [e] at hm2; cases hm2
  | cons a r =>
    rw [e] at hm2 srt
    have ha : a ∈ L := Dl.isort_mem.mp (by rw [e]; exact List.mem_cons_self)
    have h1 := h a ha
    show a = m
    rcases List.mem_cons.mp hm2 with z | z
    · exact z.symm
    · have := (List.pairwise_cons.mp srt).1 m z
      omega
section
variable {P : Program} {w : World} {K : PySem.W.Frag} {mg : Str → Option Value} {base : Heap}
def spRenTree (K : PySem.W.Frag) (C : Addr) : Sp := fun vs H Q _ => ∃ (u v p : V) (born : List Int) (days : List (List Int)) (tree : List (List (List Int))) (pl : List Int), vs = [u, v, p] ∧ TrV K C H u v born days tree ∧ T1 K H p pl ∧ Dl.PerOk born.length pl ∧ ∀ z H', Same H H' → T3 K H' z (Dl.renT born (Dl.pl pl) tree) → Q z H'
theorem bd_renamed_tree {C : Addr} (T : Txt K mg) (CT : ClT K mg C) (hwt : Has P w K mg base "want_tree" 5 ["calendar", "rows"] (spWantTree K C)) (hwp : Has P w K mg base "want_places" 1 ["many", "places"] (spWantPl K)) (hla : Has P w K mg base "lines_ahead" 2 ["calendar", "tree", "d"] (spAhead K C)) : Body P w K mg base d_renamed_tree 6 ["calendar", "tree", "places"] (spRenTree K C) := by
  refine body_mk (d := d_renamed_tree) (N := ["calendar", "tree", "places", "found", "d", "row", "ahead", "groups", "leaf", "name", "group"]) ⟨rfl, rfl, rfl, by decide +kernel, rfl, by decide +kernel, by decide +kernel⟩ (fun vs H Q E h => by obtain ⟨u, v, p, ms, z, t, pl, rfl, _⟩ := h; rfl) (fun f cdv A outer s H vs Q E hr h => ?_)
  obtain ⟨u, v, p, born, days, tree, pl, rfl, ht, hp, ok, q⟩ := h
  have nd : (["calendar", "tree", "places", "found", "d", "row", "ahead", "groups", "leaf", "name", "group"] : List Str).Nodup := by decide +kernel
  have hr1 : Room 1 (A.deeper (envOfC d_renamed_tree.qual d_renamed_tree.scope s.heap.objs.size f cdv)) := hr.mono (by decide)
  have hr2 : Room 2 (A.deeper (envOfC d_renamed_tree.qual d_renamed_tree.scope s.heap.objs.size f cdv)) := hr.mono (by decide)
  have hu := hu_of hr
  refine ⟨_, pss_cons (ps_expr (pe_has hwt hr (pa_cons (pv 0) (pa_cons (pv 1) pa_nil))))
    (pss_cons (ps_expr (pe_has hwp hr1 (pa_cons (pe_callB call_len_seq (by rfl) T.len b_len (pa_cons (pe_fld (pv 0) rfl) pa_nil)) (pa_cons (pv 2) pa_nil))))
    (pss_cons (ps_set (i := 3) nd rfl (Or.inl rfl) (pe_lst pa_nil))
    (pss_cons (ps_for PassesOwn.never rfl (pi_enumT (by rfl) T.enumerate (pa_cons (pv 1) pa_nil)) (pg_tup rfl (pgs_cons (pg_name (i := 4) nd rfl (Or.inl rfl)) (pgs_cons (pg_name (i := 5) nd rfl (Or.inl rfl)) pgs_nil)))
      (pss_cons (ps_set (i := 6) nd rfl (Or.inr rfl) (pe_has hla hr2 (pa_cons (pv 0) (pa_cons (pv 1) (pa_cons (pv 4) pa_nil)))))
      (pss_cons (ps_setLc (i := 7) (own := [("group", 10)]) (g := gName 10) (tt := tYes) rfl nd rfl (by rfl) (sw_true (by rfl) (by rfl) (by rfl) (by rfl)) (pi_tup (pv 5))
        (blkOk_by (N := ["calendar", "tree", "places", "found", "d", "row", "ahead", "groups", "leaf", "name", "group"]) (sc := d_renamed_tree.scope) (by decide +kernel))
        (fun _ _ _ _ _ => pg_name (i := 10) nd rfl (Or.inl rfl)) (fun _ _ _ _ _ => pts_nil)
        (fun _ _ _ _ _ => pe_callTy (crTup K rfl) (by rfl) T.tuple b_tuple (pa_cons (pe_callB (crSorted K rfl) (by rfl) T.sorted b_sorted (pa_cons
          (pe_lc (own := [("name", 9)]) (g := gName 9) (tt := tYes) (wi := iTup K (tVar 10)) rfl nd (piTup K rfl (pv 10))
            (blkOk_by (N := ["calendar", "tree", "places", "found", "d", "row", "ahead", "groups", "leaf", "name", "group"]) (sc := relS (lcScope rt1) d_renamed_tree.scope) (scope := lcScope rt2) (by decide +kernel))
            (fun _ _ _ _ _ => pg_name (i := 9) nd rfl (Or.inl rfl)) (fun _ _ _ _ _ => pts_nil)
            (fun _ _ _ _ _ => pe_callB (crMin K rfl rfl) (by rfl) T.min b_min (pa_cons
              (pe_lc (own := [("leaf", 8)]) (g := gName 8) (tt := tYes) (wi := iTup K (tDGet (tVar 6) (tVar 9))) rfl nd (piTup K rfl (pe_dget hu (pv 6) (pv 9) (fun _ _ => rfl)))
                (blkOk_by (N := ["calendar", "tree", "places", "found", "d", "row", "ahead", "groups", "leaf", "name", "group"]) (sc := relS (lcScope rt2) (relS (lcScope rt1) d_renamed_tree.scope)) (scope := lcScope rt3) (by decide +kernel))
                (fun _ _ _ _ _ => pg_name (i := 8) nd rfl (Or.inl rfl)) (fun _ _ _ _ _ => pts_nil)
                (fun _ _ _ _ _ => pe_ix (ixT K rfl) (pv 2) (pv 8) (fun _ _ => rfl))) pa_nil))) pa_nil)) pa_nil)))
      (pss_one (ps_expr (pe_bm PySem.F.plainAttrs_list PySem.F.slot_list_append PySem.F.type_list_append mt_append (pv 3) (pa_cons (pe_callTy (crTup K rfl) (by rfl) T.tuple b_tuple (pa_cons (pe_callB cr_sortedTT (by rfl) T.sorted b_sorted (pa_cons (pv 7) pa_nil)) pa_nil)) pa_nil)))))))
    (pss_one (ps_ret (pe_callTy (crTup K rfl) (by rfl) T.tuple b_tuple (pa_cons (pv 3) pa_nil))))))), ?_⟩
  have tok := ht.ok
  have b12 := ht.b12
  have dl := ht.dl
  have tl := tok.len
  have plen := ok.len
  obtain ⟨c, rs, rfl, hc, pr⟩ := ht.tr
  have lp := pr_len pr
  obtain ⟨pc, dx, bv, dv, rfl, hpc, ⟨ab, rfl, hbv⟩, hdv⟩ := ht.cal
  obtain ⟨ap, rfl, hap⟩ := hp
  refine ⟨_, rfl, _, rfl, .ref pc, .ref c, born, days, tree, rfl, ht, fun H1 s1 => ?_⟩
  refine ⟨_, rfl, pc, C, dx, _, _, rfl, s1 _ _ hpc, CT.cl, CT.nb, rfl, ab, _, rfl, .inr ((sm_stay (K := K) s1).x _ _ hbv).sqT, ?_⟩
  rw [List.length_map]
  refine ⟨_, rfl, .ref ap, born.length, pl, rfl, ⟨ap, rfl, (sm_stay (K := K) s1).t _ _ hap⟩, ok, by omega, fun H2 s2 => ?_⟩
  have s12 := s1.trans s2
  refine ⟨by show 0 ≤ sizeLine; decide, fun F hF => ?_⟩
  have hF0 := sm_none s12 hF
  have s3 := sm_new (o := .lst []) s12 hF
  refine ⟨_, rfl, c, rs, rfl, (sm_stay s3).t _ _ hc, for_it (walk_enumT (K := K) (a := c) (xs := rs)) (fun i σ H' => Same H H' ∧ ∃ vs z4 z5 z6 z7, σ = [some (.ref pc), some (.ref c), some (.ref ap), some (.ref F), z4, z5, z6, z7, none, none, none] ∧ H' F = some (.lst vs) ∧ Paired (T2 K H') vs ((List.range i).map fun d => Dl.rrow (Dl.la born tree d) (Dl.pl pl) (tree.getD d [])))
    ⟨s3, [], none, none, none, none, rfl, upd_same, .nil⟩ (fun i σ H' _ h => (sm_stay h.1).t _ _ hc) ?_ ?_⟩
  · rintro i x σ H3 H4 hi ⟨s4, vs, z4, z5, z6, z7, rfl, eF, prF⟩ ⟨t, x1, x2, rfl, ht4, rfl, y1, y2⟩
    have y1 : V.int (i : Nat) = x1 := Option.some.inj y1
    subst y1
    have s5 := sm_new (o := .tup [.int (i : Nat), x2]) s4 ht4
    have st5 := stay_new (K := K) (o := .tup [.int (i : Nat), x2]) ht4
    have eF5 := upd_at (o' := .tup [.int (i : Nat), x2]) eF ht4
    obtain ⟨pt, r, e1, e2, ro, eg⟩ := days_at tok (show i < tree.length by omega)
    obtain ⟨r', er', hrv⟩ := pr_get pr y2
    rw [e2] at er'
    have er' := Option.some.inj er'
    subst er'
    obtain ⟨lok, lbn⟩ := Dl.la_ok tok i (by omega)
    have ht5 := ht.same s5
    refine ⟨t, _, rfl, SqT.of upd_same, rfl, _, _, rfl, _, _, rfl, rfl, ?_⟩
    refine ⟨_, rfl, _, rfl, _, rfl, .ref pc, .ref c, born, days, tree, i, rfl, ht5.cal, ht5.tr, tok, b12, by omega, by omega, fun za H5 s6 hza => ?_⟩
    have s56 := s5.trans s6
    have eF6 := s6 _ _ eF5
    obtain ⟨cr, gs, rfl, hcr, prr⟩ := hrv
    obtain ⟨dd, kvs, rfl, hdd, prl⟩ := hza
    generalize eM : Dl.la born tree i = M at *
    have kl : (Dl.keys M).length = M.length := by simp [Dl.keys]
    have ll := lines_len lok lbn
    have fl := flat_len ro
    have rl := row_len ro.ne
    refine ⟨_, rfl, cr, rfl, ⟨_, (sm_stay s56).t _ _ hcr⟩, fun D hD => ?_⟩
    have hFD : F ≠ D := ne_of_none eF6 hD
    refine lc_tup (K := K) (a := cr) (xs := gs) (fun j H' => Same H5 H' ∧ ∃ vs2, H' D = some (.lst vs2) ∧ Paired (T1 K H') vs2 ((r.take j).map fun g => Dl.isort (g.map (Dl.phi M (Dl.pl pl)))))
      ⟨sm_new (Same.refl H5) hD, [], upd_same, .nil⟩ (fun j H' _ z => (sm_stay (s56.trans z.1)).t _ _ hcr) ?_ ?_
    · rintro j y H6 hy ⟨s7, vs2, eD, prD⟩
      obtain ⟨g, hgr, bg, rfl, hbg⟩ := pr_get prr hy
      have gm := List.mem_of_getElem? hgr
      have gl := group_len gm
      have jl : j < r.length := (List.getElem?_eq_some_iff.mp hgr).1
      have s57 := s56.trans s7
      refine ⟨rfl, lcY ?_⟩
      refine ⟨_, rfl, bg, rfl, ⟨_, (sm_stay s57).t _ _ hbg⟩, fun D2 hD2 => ?_⟩
      have hD22 : D ≠ D2 := ne_of_none eD hD2
      refine lc_tup (K := K) (a := bg) (xs := g.map V.int) (fun k H' => Same H6 H' ∧ H' D2 = some (.lst (((g.take k).map (Dl.phi M (Dl.pl pl))).map V.int)))
        ⟨sm_new (Same.refl H6) hD2, upd_same⟩ (fun k H' _ z => (sm_stay (s57.trans z.1)).t _ _ hbg) ?_ ?_
      · rintro k y H7 hy ⟨s8, eD2⟩
        obtain ⟨n, hn, rfl⟩ := int_get hy
        have s58 := s57.trans s8
        have nk := ro.sub g gm n (List.mem_of_getElem? hn)
        have kl2 : k < g.length := (List.getElem?_eq_some_iff.mp hn).1
        obtain ⟨lv, elv, al, rfl, hal⟩ := lp_val prl nk
        have hal7 := (sm_stay (K := K) (s7.trans s8)).t _ _ hal
        have dg : DGet H7 dd (.int n) (some (.ref al)) := elv ▸ DGet.k (k := Sum.inl n) ((s7.trans s8) _ _ hdd)
        have lin := Dl.look_in nk
        refine ⟨rfl, lcY ?_⟩
        refine ⟨_, rfl, _, rfl, dd, _, rfl, dg, al, rfl, ⟨_, hal7⟩, fun D3 hD3 => ?_⟩
        refine lc_tup (K := K) (a := al) (xs := (Dl.look M n).map V.int) (fun l H' => Same H7 H' ∧ H' D3 = some (.lst ((((Dl.look M n).take l).map (Dl.pl pl)).map V.int)))
          ⟨sm_new (Same.refl H7) hD3, upd_same⟩ (fun l H' _ z => (sm_stay z.1).t _ _ hal7) ?_ ?_
        · rintro l y H8 hy ⟨s9, eD3⟩
          obtain ⟨x, hx, rfl⟩ := int_get hy
          obtain ⟨q0, e0, hq0⟩ := bn_rng lbn lin (List.mem_of_getElem? hx)
          obtain ⟨j0, hj0, ej0, gj0⟩ := ok.pl_at hq0
          have ll2 : l < (Dl.look M n).length := (List.getElem?_eq_some_iff.mp hx).1
          have nd2 : (Dl.look M n).Nodup := Dl.lt_nodup (lok.srt _ lin).1
          have lb := rng_len nd2 fun x hx => bn_rng lbn lin hx
          refine ⟨rfl, lcY ?_⟩
          refine ⟨_, rfl, _, rfl, ap, _, _, _, rfl, rfl, (sm_stay (K := K) (s58.trans s9)).t _ _ hap, at_of (j := q0) e0 (int_at gj0), ?_⟩
          refine ⟨_, eD3, lt_line (by simp; omega), sm_put s9 hD3, ?_⟩
          rw [take_snoc hx, List.map_append, List.map_append, List.map_singleton, e0, ej0]
          exact upd_same
        · rintro H8 ⟨s9, eD3⟩
          rw [List.length_map, List.take_length] at eD3
          have ne : 0 < ((Dl.look M n).map (Dl.pl pl)).length := by
            rw [List.length_map]
            exact List.length_pos_of_mem (lok.kin lin)
          refine ⟨D3, _, rfl, SqL.of eD3, ne, fun m hm hle => ?_⟩
          have em : Dl.phi M (Dl.pl pl) n = m := min_head hm hle
          have eD28 := s9 _ _ eD2
          refine ⟨_, eD28, lt_line (by simp; omega), sm_put (s8.trans s9) hD2, ?_⟩
          rw [take_snoc hn, List.map_append, List.map_append, List.map_singleton, em]
          exact upd_same
      · rintro H7 ⟨s8, eD2⟩
        rw [List.length_map, List.take_length] at eD2
        refine ⟨D2, _, rfl, SqL.of eD2, by rw [List.length_map]; omega, fun ns' p5 pm srt hp5 => ?_⟩
        have ens : ns' = Dl.isort (g.map (Dl.phi M (Dl.pl pl))) := Dl.isort_eq pm srt
        subst ens
        refine ⟨p5, _, rfl, .inl ⟨SqL.of upd_same, fun p6 hp6 => ?_⟩⟩
        have eD7 := upd_at (o' := .tup ((Dl.isort (g.map (Dl.phi M (Dl.pl pl)))).map V.int)) (upd_at (o' := .lst ((Dl.isort (g.map (Dl.phi M (Dl.pl pl)))).map V.int)) (s8 _ _ eD) hp5) hp6
        refine ⟨vs2, eD7, lt_line (by rw [pr_len prD]; simp; omega), ?_, ?_⟩
        · exact sm_put (sm_new (sm_new (s7.trans s8) hp5) hp6) hD
        · have st := stay_lst (K := K) (o := .lst (vs2 ++ [.ref p6])) eD7
          refine ⟨_, upd_same, ?_⟩
          rw [take_snoc hgr, List.map_append, List.map_singleton]
          exact pr_snoc (prT1_mono ((((sm_stay s8).trans (stay_new hp5)).trans (stay_new hp6)).trans st) prD) ⟨p6, rfl, st.t _ _ (SqT.of upd_same)⟩
    · rintro H6 ⟨s7, vs2, eD, prD⟩
      rw [pr_len prr, List.take_length] at prD
      have eF7 := s7 _ _ eF6
      obtain ⟨xs, exs, erow, hxs⟩ := t2_pairs prD
      subst exs
      refine ⟨_, rfl, .inl ⟨rfl, _, SqL.of eF7⟩, _, rfl, D, xs, rfl, .inl (SqL.of eD), fun q hq => ⟨hxs q hq, ?_⟩, fun ys p7 pm srt hp7 => ?_⟩
      · have : q.2 ∈ r.map fun g => Dl.isort (g.map (Dl.phi M (Dl.pl pl))) := by rw [erow]; exact List.mem_map.mpr ⟨q, hq, rfl⟩
        obtain ⟨g, hg, e⟩ := List.mem_map.mp this
        rw [← e]
        refine Dl.isort_ne ?_
        have := ro.ne g hg
        simpa using this
      have eys : ys.map (·.2) = Dl.rrow M (Dl.pl pl) r := Dl.rsort_eq ((pm.map (·.2)).trans (by rw [erow])) srt
      refine ⟨p7, _, rfl, .inl ⟨SqL.of upd_same, fun p8 hp8 => ?_⟩⟩
      have s8 : Same H _ := sm_new (o := .tup (ys.map fun p => V.ref p.1)) (sm_new (o := .lst (ys.map fun p => V.ref p.1)) (s56.trans s7) hp7) hp8
      have eF8 := upd_at (o' := .tup (ys.map fun p => V.ref p.1)) (upd_at (o' := .lst (ys.map fun p => V.ref p.1)) eF7 hp7) hp8
      have hv8 : T2 K (upd (upd H6 p7 (.lst (ys.map fun p => V.ref p.1))) p8 (.tup (ys.map fun p => V.ref p.1))) (.ref p8) (Dl.rrow M (Dl.pl pl) r) := by
        refine ⟨p8, _, rfl, SqT.of upd_same, ?_⟩
        rw [← eys]
        exact prT1_mono ((stay_new hp7).trans (stay_new hp8)) (pairs_t2 fun q hq => hxs q (pm.mem_iff.mp hq))
      have stA : Stay K H3 (upd (upd H6 p7 (.lst (ys.map fun p => V.ref p.1))) p8 (.tup (ys.map fun p => V.ref p.1))) := (((st5.trans (sm_stay s6)).trans (sm_stay s7)).trans (stay_new hp7)).trans (stay_new hp8)
      have st9 := stay_lst (K := K) (o := .lst (vs ++ [.ref p8])) eF8
      refine ⟨F, vs, _, rfl, rfl, eF8, lt_line (by rw [pr_len prF]; simp; omega), sm_put s8 hF0, _, _, _, _, _, rfl, upd_same, ?_⟩
      rw [List.range_succ, List.map_append, List.map_singleton, eg, eM]
      exact pr_snoc (pr_mono prF fun _ _ z => z.mono (stA.trans st9)) (hv8.mono st9)
  · rintro σ H3 ⟨s4, vs, z4, z5, z6, z7, rfl, eF, prF⟩
    rw [lp] at prF
    refine ⟨_, rfl, F, _, rfl, .inl ⟨SqL.of eF, fun l hl => ?_⟩⟩
    exact q _ _ (sm_new s4 hl) ⟨l, _, rfl, SqT.of upd_same, pr_mono prF fun _ _ z => z.mono (stay_new hl)⟩
end
end Dd

/-! The law's source -/
namespace Dd
open PySem PySem.Spec PyProof.Rows L2 Dr Dh
theorem b01 (b : Bool) : -(2 ^ 64) < (if b = true then 1 else 0 : Int) ∧ (if b = true then 1 else 0 : Int) < 2 ^ 64 := by cases b <;> decide
theorem b0 (b : Bool) : 0 ≤ (if b = true then 1 else 0 : Int) := by cases b <;> decide
/-- all but the list at l stays -/
def Sb (l : Addr) (H H' : Hp) : Prop := ∀ b u, b ≠ l → H b = some u → H' b = some u
def Src (H : Hp) (l : Addr) : Prop := ∃ a m : Int, H l = some (.lst [.int a, .int m]) ∧ 0 ≤ a ∧ 0 ≤ m ∧ m < 2147483647
theorem Sb.of {l : Addr} {H H' : Hp} (s : Same H H') : Sb l H H' := fun b u _ h => s b u h
theorem Sb.refl {l : Addr} {H : Hp} : Sb l H H := fun b u _ h => h
theorem Sb.trans {l : Addr} {H H1 H2 : Hp} (a : Sb l H H1) (b : Sb l H1 H2) : Sb l H H2 := fun c u n h => b c u n (a c u n h)
theorem Sb.same {l : Addr} {H H1 H2 : Hp} (a : Sb l H H1) (b : Same H1 H2) : Sb l H H2 := a.trans (.of b)
theorem Sb.new {l p : Addr} {H0 H : Hp} {o : HO} (s : Sb l H0 H) (n : H p = none) : Sb l H0 (upd H p o) := s.trans (.of (sm_new (Same.refl H) n))
theorem Sb.put {l p : Addr} {H0 H : Hp} {o : HO} (s : Sb l H0 H) (n : H0 p = none) : Sb l H0 (upd H p o) := fun b u h e => by
  rw [upd_ne (ne_of_none e n)]
  exact s b u h e
theorem Src.same {l : Addr} {H H' : Hp} (s : Same H H') (h : Src H l) : Src H' l := by
  obtain ⟨a, m, e, r⟩ := h
  exact ⟨a, m, s _ _ e, r⟩
theorem Src.ne {l p : Addr} {H : Hp} (h : Src H l) (n : H p = none) : l ≠ p := by
  obtain ⟨a, m, e, r⟩ := h
  exact ne_of_none e n
theorem Src.put {l p : Addr} {H : Hp} {o : HO} (h : Src H l) (n : l ≠ p) : Src (upd H p o) l := by
  obtain ⟨a, m, e, r⟩ := h
  exact ⟨a, m, (upd_ne n).trans e, r⟩
theorem Src.new {l p : Addr} {H : Hp} {o : HO} (h : Src H l) (n : H p = none) : Src (upd H p o) l := h.put (h.ne n)
theorem sb_stay {K : PySem.W.Frag} {l : Addr} {H H' : Hp} (r : Src H l) (s : Sb l H H') : Stay K H H' := by
  obtain ⟨a, m, e, _⟩ := r
  have no := noT_lst e
  refine ⟨fun c xs h => ?_, fun c xs h => ?_⟩
  rotate_left
  · obtain ⟨u, h, hd⟩ := h
    exact ⟨u, s _ _ (fun z => no xs (.inr ⟨u, z ▸ h⟩)) h, hd⟩
  rcases h with (h | ⟨u, h⟩) | h
  · exact .inl (.inl (s _ _ (fun z => no xs (.inl (z ▸ h))) h))
  · exact .inl (.inr ⟨u, s _ _ (fun z => no xs (.inr ⟨u, z ▸ h⟩)) h⟩)
  · exact .inr h
section
variable {P : Program} {w : World} {K : PySem.W.Frag} {mg : Str → Option Value} {base : Heap}
def spPool (K : PySem.W.Frag) : Sp := fun vs H Q _ => ∃ (s : Addr) (ns : List Int) (k : Nat), vs = [.ref s, .int (k : Nat)] ∧ SqL K H s (ns.map V.int) ∧ k ≤ 2 ∧ ∀ l H', Same H H' → H l = none → Src H' l → Q (.ref l) H'
theorem ok_law_pool (T : Txt K mg) (G : Giv K mg d_law_pool) : Has P w K mg base "_law_pool" 1 ["_law_script", "_law_k"] (spPool K) := by
  refine has_mk (d := d_law_pool) (N := ["_law_script", "_law_k", "_law_cell", "_law_big", "_law_mixed"]) G ⟨rfl, rfl, rfl, by decide +kernel, rfl, by decide +kernel, by decide +kernel⟩ (fun _ _ _ _ _ _ us hl => match us, hl with | [_, _], _ => rfl) (fun vs H Q E h => by obtain ⟨v, ns, k, rfl, _⟩ := h; rfl) (fun f cdv A outer s H vs Q E hr h => ?_)
  obtain ⟨sa, ns, k, rfl, hs, hk, q⟩ := h
  have nd : (["_law_script", "_law_k", "_law_cell", "_law_big", "_law_mixed"] : List Str).Nodup := by decide +kernel
  refine ⟨_, pss_cons (ps_set (i := 2) nd rfl (Or.inl rfl) pe_int)
    (pss_cons (ps_if (pt_cmpR op_lt (pv 1) (pe_callB call_len_seq (by rfl) T.len b_len (pa_cons (pv 0) pa_nil)) (nomark _))
      (pss_one (ps_set (i := 2) nd rfl (Or.inl rfl) (pe_ix ix_list (pv 0) (pv 1) (fun _ _ => rfl))))
      (pss_one (ps_if (pt_truth (pv 0) (by intro _; rfl)) (pss_one (ps_set (i := 2) nd rfl (Or.inl rfl) (pe_ix ix_list (pv 0) pe_int (fun _ _ => rfl)))) pss_nil)))
    (pss_cons (ps_set (i := 3) nd rfl (Or.inl rfl) (pe_callB (call_max2 rfl) (by rfl) T.max b_max (pa_cons (pe_callTy call_int1 (by rfl) T.int b_int (pa_cons (pv 2) pa_nil)) (pa_cons (pe_callTy call_int1 (by rfl) T.int b_int (pa_cons (pe_op op_sub (pe_un un_neg pe_int) (pv 2)) pa_nil)) pa_nil))))
    (pss_cons (ps_set (i := 4) nd rfl (Or.inl rfl) (pe_op op_modN (pe_callTy call_int1 (by rfl) T.int b_int (pa_cons (pe_op op_mul (pe_op op_add (pe_op op_add (pe_op op_add (pe_op op_modN (pe_callTy call_int1 (by rfl) T.int b_int (pa_cons (pv 3) pa_nil)) pe_int) (pe_op op_mul (pe_op op_mul pe_int (pv 1)) (pv 1))) (pe_op op_mul pe_int (pv 1))) pe_int) pe_int) pa_nil)) pe_int))
    (pss_one (ps_ret (pe_lst (pa_cons (pe_op op_mul (pv 3) (pe_callTy call_int1 (by rfl) T.int b_int (pa_cons (pe_cmpR op_ge (pv 3) (pe_op op_pow pe_int pe_int) (nomark _)) pa_nil))) (pa_cons (pv 4) pa_nil)))))))), ?_⟩
  refine ⟨_, rfl, _, rfl, sa, _, rfl, .inl hs, _, _, rfl, rfl, _, rfl, ?_⟩
  rw [List.length_map]
  refine ite2 (fun c => ?a) (fun c => ?b)
  case' a =>
    have c' : k < ns.length := by have := of_decide_eq_true c; omega
    have g : ns[k]? = some ns[k] := List.getElem?_eq_getElem c'
    refine ⟨_, rfl, _, rfl, sa, _, _, _, rfl, rfl, hs, atI_nat (int_at g), ?_⟩
    generalize ns[k] = z
  case' b =>
    refine ⟨_, rfl, _, .inl ⟨_, hs, rfl⟩, ?_⟩
    refine ite2 (fun c2 => ?b1) (fun c2 => ?b2)
    case' b1 =>
      have g : ∃ z, ns[0]? = some z := by
        cases ns with
        | nil => simp at c2
        | cons z r => exact ⟨z, rfl⟩
      obtain ⟨z, g⟩ := g
      refine ⟨_, rfl, sa, _, 0, _, rfl, rfl, hs, atI_nat (j := 0) (int_at g), ?_⟩
    case' b2 =>
      obtain ⟨z, ez⟩ : ∃ z : Int, z = 0 := ⟨0, rfl⟩
  all_goals
    refine ⟨_, rfl, .inl ⟨_, rfl, ?_⟩⟩
    refine ⟨_, rfl, _, rfl, _, _, rfl, rfl, .inl ⟨_, rfl, ?_⟩⟩
    refine ⟨_, _, rfl, ?_⟩
    refine ⟨_, rfl, .inl ⟨_, rfl, ?_⟩⟩
    refine ⟨_, _, rfl, rfl, (by show (2147483629 : Int) ≠ 0; decide), ?_⟩
    refine ⟨_, rfl, _, _, rfl, rfl, .inl ⟨by decide, by decide⟩, _, rfl, _, _, rfl, rfl, .inr ⟨by omega, by omega⟩, _, _, rfl, rfl, ?_⟩
    refine ⟨_, rfl, _, _, rfl, rfl, .inl ⟨by decide, by decide⟩, _, _, rfl, rfl, _, _, rfl, rfl, _, _, rfl, rfl, .inr ⟨by decide, by decide⟩, .inl ⟨_, rfl, ?_⟩⟩
    refine ⟨_, _, rfl, rfl, (by show (2147483647 : Int) ≠ 0; decide), ?_⟩
    refine ⟨_, rfl, _, rfl, _, _, rfl, rfl, ⟨by decide, by decide, by decide⟩, _, _, rfl, rfl, .inr ⟨_, rfl, ?_⟩⟩
    refine ⟨_, _, rfl, rfl, .inr (b01 _), _, rfl, by show 2 ≤ sizeLine; decide, fun l hl => ?_⟩
    refine q l _ (sm_new (Same.refl H) hl) hl ⟨_, _, upd_same, ?_, Int.fmod_nonneg_of_pos _ (by decide), Int.fmod_lt_of_pos _ (by decide)⟩
    refine Int.mul_nonneg ?_ (b0 _)
    · split <;> omega
end
end Dd

/-! take, one, shuffled -/
namespace Dd
open PySem PySem.Spec PyProof.Rows L2 Dr Dh
theorem erase_map : ∀ (l : List Int) (k : Nat), (l.map V.int).eraseIdx k = (l.eraseIdx k).map V.int
  | [], _ => rfl
  | a :: l, 0 => rfl
  | a :: l, k + 1 => by
    rw [List.map_cons, List.eraseIdx_cons_succ, List.eraseIdx_cons_succ, List.map_cons, erase_map l k]
theorem erase_perm : ∀ (l : List Int) (k : Nat) (h : k < l.length), l.Perm (l[k] :: l.eraseIdx k)
  | a :: l, 0, _ => .refl _
  | a :: l, k + 1, h => by
    have ih := erase_perm l k (by simpa using h)
    rw [List.eraseIdx_cons_succ]
    exact (List.Perm.cons a ih).trans (List.Perm.swap _ _ _)
section
variable {P : Program} {w : World} {K : PySem.W.Frag} {mg : Str → Option Value} {base : Heap}
def spTake : Sp := fun vs H Q _ => ∃ (l : Addr) (top : Int), vs = [.ref l, .int top] ∧ Src H l ∧ 1 ≤ top ∧ top.natAbs < 2 ^ 400 ∧ ∀ H' r, Sb l H H' → Src H' l → 0 ≤ r → r < top → Q (.int r) H'
theorem ok_law_take (T : Txt K mg) (G : Giv K mg d_law_take) : Has P w K mg base "_law_take" 1 ["_law_source", "_law_top"] spTake := by
  refine has_mk (d := d_law_take) (N := ["_law_source", "_law_top", "_law_drawn_here"]) G ⟨rfl, rfl, rfl, by decide +kernel, rfl, by decide +kernel, by decide +kernel⟩ (fun _ _ _ _ _ _ us hl => match us, hl with | [_, _], _ => rfl) (fun vs H Q E h => by obtain ⟨v, ns, rfl, _⟩ := h; rfl) (fun f cdv A outer s H vs Q E hr h => ?_)
  obtain ⟨l, top, rfl, ⟨a, m, hl, a0, m0, m1⟩, t1, tb, q⟩ := h
  have nd : (["_law_source", "_law_top", "_law_drawn_here"] : List Str).Nodup := by decide +kernel
  refine ⟨_, pss_cons (ps_if (pt_cmpR op_gt (pe_ix ix_list (pv 0) pe_int (fun _ _ => rfl)) pe_int (nomark _))
      (pss_cons (ps_set (i := 2) nd rfl (Or.inl rfl) (pe_op op_modN (pe_callTy call_int1 (by rfl) T.int b_int (pa_cons (pe_ix ix_list (pv 0) pe_int (fun _ _ => rfl)) pa_nil)) (pv 1)))
      (pss_cons (ps_asg (pe_op op_fdivW (pe_ix ix_list (pv 0) pe_int (fun _ _ => rfl)) (pv 1)) (pg_sub (pv 0) pe_int set_list))
      (pss_one (ps_ret (pv 2))))) pss_nil)
    (pss_cons (ps_asg (pe_op op_modN (pe_callTy call_int1 (by rfl) T.int b_int (pa_cons (pe_op op_add (pe_op op_mul (pe_ix ix_list (pv 0) pe_int (fun _ _ => rfl)) pe_int) pe_int) pa_nil)) pe_int) (pg_sub (pv 0) pe_int set_list))
    (pss_one (ps_ret (pe_op op_modN (pe_callTy call_int1 (by rfl) T.int b_int (pa_cons (pe_op op_fdivW (pe_op op_modN (pe_callTy call_int1 (by rfl) T.int b_int (pa_cons (pe_op op_mul (pe_ix ix_list (pv 0) pe_int (fun _ _ => rfl)) (pe_ix ix_list (pv 0) pe_int (fun _ _ => rfl))) pa_nil)) pe_int) pe_int) pa_nil)) (pv 1))))), ?_⟩
  refine ⟨_, rfl, l, _, 0, _, rfl, rfl, SqL.of hl, atI_nat (j := 0) rfl, _, _, rfl, rfl, _, rfl, ?_⟩
  refine ite2 (fun c => ?_) (fun c => ?_)
  · refine ⟨_, rfl, l, _, 0, _, rfl, rfl, SqL.of hl, atI_nat (j := 0) rfl, .inl ⟨_, rfl, ?_⟩⟩
    refine ⟨_, rfl, _, _, rfl, rfl, (by show top ≠ 0; omega), ?_⟩
    refine ⟨_, rfl, l, _, 0, _, rfl, rfl, SqL.of hl, atI_nat (j := 0) rfl, _, rfl, _, _, rfl, rfl, wide_div (b := 400) (by omega) tb (by decide) (by decide), ?_⟩
    refine ⟨_, rfl, l, _, 0, 0, rfl, rfl, hl, rfl, ?_⟩
    refine ⟨_, rfl, ?_⟩
    refine q _ _ (fun b u n h => (upd_ne n).trans h) ⟨a / top, m, upd_same, Int.ediv_nonneg a0 (by omega), m0, m1⟩ (Int.fmod_nonneg_of_pos _ (by omega)) (Int.fmod_lt_of_pos _ (by omega))
  · refine ⟨_, rfl, l, _, 1, _, rfl, rfl, SqL.of hl, atI_nat (j := 1) rfl, _, _, rfl, rfl, .inr ⟨by decide, by decide⟩, _, _, rfl, rfl, .inl ⟨_, rfl, ?_⟩⟩
    refine ⟨_, _, rfl, rfl, (by show (2147483647 : Int) ≠ 0; decide), ?_⟩
    have n0 : 0 ≤ (m * 39373 + 7).fmod 2147483647 := Int.fmod_nonneg_of_pos _ (by decide)
    have n1 : (m * 39373 + 7).fmod 2147483647 < 2147483647 := Int.fmod_lt_of_pos _ (by decide)
    refine ⟨_, rfl, l, _, 1, 1, rfl, rfl, hl, rfl, ?_⟩
    have e1 : (upd H l (.lst ([V.int a, V.int m].set 1 (V.int ((m * 39373 + 7).fmod 2147483647))))) l = some (.lst [V.int a, V.int ((m * 39373 + 7).fmod 2147483647)]) := upd_same
    refine ⟨_, rfl, l, _, 1, _, rfl, rfl, SqL.of e1, atI_nat (j := 1) rfl, _, rfl, l, _, 1, _, rfl, rfl, SqL.of e1, atI_nat (j := 1) rfl, _, _, rfl, rfl, .inl ⟨by omega, by omega⟩, .inl ⟨_, rfl, ?_⟩⟩
    refine ⟨_, _, rfl, rfl, (by show (2147483629 : Int) ≠ 0; decide), _, _, rfl, rfl, wide_div (b := 6) (by decide) (by decide) (by decide) (by decide), .inl ⟨_, rfl, ?_⟩⟩
    refine ⟨_, rfl, _, _, rfl, rfl, (by show top ≠ 0; omega), ?_⟩
    exact q _ _ (fun b u n h => (upd_ne n).trans h) ⟨a, _, e1, a0, n0, n1⟩ (Int.fmod_nonneg_of_pos _ (by omega)) (Int.fmod_lt_of_pos _ (by omega))
def spOne (K : PySem.W.Frag) : Sp := fun vs H Q _ => ∃ (l t : Addr) (ns : List Int), vs = [.ref l, .ref t] ∧ Src H l ∧ H t = some (.lst (ns.map V.int)) ∧ t ≠ l ∧ 1 ≤ ns.length ∧ ns.length ≤ 100 ∧ ∀ H' x, Sb l H H' → Src H' l → x ∈ ns → Q (.int x) H'
theorem ok_law_one (T : Txt K mg) (G : Giv K mg d_law_one) (ht : Has P w K mg base "_law_take" 1 ["_law_source", "_law_top"] spTake) : Has P w K mg base "_law_one" 2 ["_law_source", "_law_things"] (spOne K) := by
  refine has_mk (d := d_law_one) (N := ["_law_source", "_law_things"]) G ⟨rfl, rfl, rfl, by decide +kernel, rfl, by decide +kernel, by decide +kernel⟩ (fun _ _ _ _ _ _ us hl => match us, hl with | [_, _], _ => rfl) (fun vs H Q E h => by obtain ⟨v, t, ns, rfl, _⟩ := h; rfl) (fun f cdv A outer s H vs Q E hr h => ?_)
  obtain ⟨l, t, ns, rfl, hs, htl, ne, n1, n2, q⟩ := h
  refine ⟨_, pss_one (ps_ret (pe_ix ix_list (pv 1) (pe_has ht hr (pa_cons (pv 0) (pa_cons (pe_callB call_len_seq (by rfl) T.len b_len (pa_cons (pv 1) pa_nil)) pa_nil))) (fun _ _ => rfl))), ?_⟩
  refine ⟨_, rfl, _, rfl, _, rfl, t, _, rfl, .inl (SqL.of htl), ?_⟩
  rw [List.length_map]
  refine ⟨l, _, rfl, hs, by omega, Nat.lt_of_lt_of_le (show _ < 2 ^ 10 by omega) (Nat.pow_le_pow_right (by decide) (by decide)), fun H' r sb sr r0 r1 => ?_⟩
  have rl : r.toNat < ns.length := by omega
  have g : ns[r.toNat]? = some ns[r.toNat] := List.getElem?_eq_getElem rl
  refine ⟨t, _, _, _, rfl, rfl, SqL.of (sb _ _ ne htl), at_of (j := r.toNat) (by omega) (int_at g), ?_⟩
  exact q _ _ sb sr (List.getElem_mem rl)
def spShuf (K : PySem.W.Frag) : Sp := fun vs H Q _ => ∃ (l t : Addr) (ns : List Int), vs = [.ref l, .ref t] ∧ Src H l ∧ SqL K H t (ns.map V.int) ∧ ns.length ≤ 100 ∧ ∀ z H' (ms : List Int), Sb l H H' → Src H' l → H z = none → H' z = some (.lst (ms.map V.int)) → ms.Perm ns → Q (.ref z) H'
theorem ok_law_shuffled (T : Txt K mg) (G : Giv K mg d_law_shuffled) (ht : Has P w K mg base "_law_take" 1 ["_law_source", "_law_top"] spTake) : Has P w K mg base "_law_shuffled" 2 ["_law_source", "_law_things"] (spShuf K) := by
  refine has_mk (d := d_law_shuffled) (N := ["_law_source", "_law_things", "_law_left", "_law_found", "_law_k"]) G ⟨rfl, rfl, rfl, by decide +kernel, rfl, by decide +kernel, by decide +kernel⟩ (fun _ _ _ _ _ _ us hl => match us, hl with | [_, _], _ => rfl) (fun vs H Q E h => by obtain ⟨v, t, ns, rfl, _⟩ := h; rfl) (fun f cdv A outer s H vs Q E hr h => ?_)
  obtain ⟨l, t, ns, rfl, hs, htl, n2, q⟩ := h
  have nd : (["_law_source", "_law_things", "_law_left", "_law_found", "_law_k"] : List Str).Nodup := by decide +kernel
  refine ⟨_, pss_cons (ps_par (i := 2) (j := 3) rfl nd rfl rfl (by decide) rfl rfl (pa_cons (pe_callTy call_list_of (by rfl) T.list b_list (pa_cons (pv 1) pa_nil)) (pa_cons (pe_lst pa_nil) pa_nil)) (by rfl))
    (pss_cons (ps_for PassesOwn.never rfl (pi_range1 (by rfl) T.range (pa_cons (pe_callB call_len_seq (by rfl) T.len b_len (pa_cons (pv 2) pa_nil)) pa_nil)) (pg_name (i := 4) nd rfl (Or.inl rfl))
      (pss_one (ps_expr (pe_bm PySem.F.plainAttrs_list PySem.F.slot_list_append PySem.F.type_list_append mt_append (pv 3) (pa_cons (pe_bm PySem.F.plainAttrs_list PySem.F.slot_list_pop PySem.F.type_list_pop mt_popAt (pv 2)
        (pa_cons (pe_has ht hr (pa_cons (pv 0) (pa_cons (pe_callB call_len_seq (by rfl) T.len b_len (pa_cons (pv 2) pa_nil)) pa_nil))) pa_nil)) pa_nil)))))
    (pss_one (ps_ret (pv 3)))), ?_⟩
  refine ⟨_, rfl, t, _, rfl, .inl htl, fun L hL => ?_⟩
  refine ⟨by show 0 ≤ sizeLine; decide, fun F hF => ?_⟩
  have eL := upd_at (o' := .lst []) (upd_same (H := H) (a := L) (o := .lst (ns.map V.int))) hF
  have hLF : L ≠ F := ne_of_none upd_same hF
  have hF0 : H F = none := sm_none (sm_new (Same.refl H) hL) hF
  have hl1 : l ≠ L := hs.ne hL
  have hl2 : l ≠ F := (hs.new hL).ne hF
  have s0 : Sb l H (upd (upd H L (.lst (ns.map V.int))) F (.lst [])) := .of (sm_new (sm_new (Same.refl H) hL) hF)
  refine ⟨_, _, rfl, ?_⟩
  refine ⟨_, rfl, L, _, rfl, .inl (SqL.of eL), ?_⟩
  rw [List.length_map]
  refine ⟨_, rfl, by omega, by omega, ?_⟩
  rw [Int.toNat_natCast]
  refine for_it (walk_range (lo := 0) (n := ns.length)) (fun i σ H' => Sb l H H' ∧ Src H' l ∧ ∃ ls fs z4, σ = [some (.ref l), some (.ref t), some (.ref L), some (.ref F), z4] ∧ H' L = some (.lst (ls.map V.int)) ∧ H' F = some (.lst (fs.map V.int)) ∧ (ls ++ fs).Perm ns ∧ fs.length = i)
    ⟨s0, (hs.new hL).new hF, ns, [], none, rfl, eL, upd_same, by rw [List.append_nil], rfl⟩ (fun _ _ _ _ _ => trivial) ?_ ?_
  · rintro i z σ H2 H3 hi ⟨sb, sr, ls, fs, z4, rfl, e1, e2, pm, fl⟩ ⟨rfl, rfl⟩
    have pl := pm.length_eq
    rw [List.length_append] at pl
    refine ⟨_, rfl, .inl ⟨rfl, _, SqL.of e2⟩, _, rfl, .inl ⟨rfl, _, SqL.of e1⟩, _, rfl, _, rfl, L, _, rfl, .inl (SqL.of e1), ?_⟩
    rw [List.length_map]
    refine ⟨l, _, rfl, sr, by omega, Nat.lt_of_lt_of_le (show _ < 2 ^ 10 by omega) (Nat.pow_le_pow_right (by decide) (by decide)), fun H4 r sb4 sr4 r0 r1 => ?_⟩
    have rl : r.toNat < ls.length := by omega
    have g : ls[r.toNat]? = some ls[r.toNat] := List.getElem?_eq_getElem rl
    have e14 := sb4 _ _ (fun e => hl1 e.symm) e1
    have e24 := sb4 _ _ (fun e => hl2 e.symm) e2
    refine ⟨L, _, r, r.toNat, _, rfl, rfl, e14, by omega, by omega, ?_, int_at g, ?_⟩
    · unfold seqIndex?
      simp only [List.length_map]
      rw [if_neg (show ¬ r < 0 by omega)]
      rw [if_pos (show (decide (0 ≤ r) && decide (r < ls.length)) = true by rw [decide_eq_true r0, decide_eq_true r1]; rfl)]
    refine ⟨F, _, _, rfl, rfl, (upd_ne (fun e => hLF e.symm)).trans e24, lt_line (by rw [List.length_map]; omega), ?_⟩
    refine ⟨((sb.trans sb4).put hL).put hF0, (sr4.put hl1).put hl2, ls.eraseIdx r.toNat, fs ++ [ls[r.toNat]], _, rfl, ?_, ?_, ?_, ?_⟩
    · refine (upd_ne hLF).trans ?_
      rw [← erase_map]
      exact upd_same
    · rw [List.map_append]
      exact upd_same
    · refine List.Perm.trans ?_ pm
      have e : ls.Perm (ls[r.toNat] :: ls.eraseIdx r.toNat) := erase_perm ls r.toNat rl
      refine List.Perm.trans ?_ (List.Perm.append_right fs e.symm)
      rw [← List.append_assoc]
      exact List.perm_append_singleton _ _
    · rw [List.length_append, fl]; rfl
  · rintro σ H2 ⟨sb, sr, ls, fs, z4, rfl, e1, e2, pm, fl⟩
    have pl := pm.length_eq
    rw [List.length_append] at pl
    have l0 : ls = [] := List.length_eq_zero_iff.mp (by omega)
    subst l0
    exact ⟨_, rfl, q _ _ fs sb sr hF0 e2 pm⟩
end
end Dd

/-! pattern, drawn -/
namespace Dd
open PySem PySem.Spec PyProof.Rows L2 Dr Dh
theorem b400 {n : Nat} (h : n < 1024) : n < 2 ^ 400 := Nat.lt_of_lt_of_le (show n < 2 ^ 10 by omega) (Nat.pow_le_pow_right (by decide) (by decide))
theorem two_sorted {a b : Int} {ns : List Int} (pm : ns.Perm [a, b]) (st : ns.Pairwise (· ≤ ·)) : ns = [a, b] ∧ a ≤ b ∨ ns = [b, a] ∧ b ≤ a := by
  by_cases h : a ≤ b
  · exact .inl ⟨Dl.srt_uniq pm st (by simpa using h), h⟩
  · exact .inr ⟨Dl.srt_uniq (pm.trans (List.Perm.swap b a [])) st (by simp; omega), by omega⟩
section
variable {P : Program} {w : World} {K : PySem.W.Frag} {mg : Str → Option Value} {base : Heap}
def spPatn : Sp := fun vs H Q _ => ∃ (l : Addr) (al : Int), vs = [.ref l, .int al] ∧ Src H l ∧ 2 ≤ al ∧ al ≤ 12 ∧ ∀ z H' p, Sb l H H' → Src H' l → X1 H' z p → Dl.Pat p → p ≠ [] → p.sum ≤ al → Q z H'
theorem ok_law_pattern (T : Txt K mg) (G : Giv K mg d_law_pattern) (ht : Has P w K mg base "_law_take" 1 ["_law_source", "_law_top"] spTake) (ho : Has P w K mg base "_law_one" 2 ["_law_source", "_law_things"] (spOne K)) : Has P w K mg base "_law_pattern" 3 ["_law_source", "_law_alive"] spPatn := by
  refine has_mk (d := d_law_pattern) (N := ["_law_source", "_law_alive", "_law_first"]) G ⟨rfl, rfl, rfl, by decide +kernel, rfl, by decide +kernel, by decide +kernel⟩ (fun _ _ _ _ _ _ us hl => match us, hl with | [_, _], _ => rfl) (fun vs H Q E h => by obtain ⟨v, ns, rfl, _⟩ := h; rfl) (fun f cdv A outer s H vs Q E hr h => ?_)
  obtain ⟨l, al, rfl, hs, a2, a12, q⟩ := h
  have nd : (["_law_source", "_law_alive", "_law_first"] : List Str).Nodup := by decide +kernel
  have hr1 : Room 1 (A.deeper (envOfC d_law_pattern.qual d_law_pattern.scope s.heap.objs.size f cdv)) := hr.mono (by decide)
  refine ⟨_, pss_cons (ps_set (i := 2) nd rfl (Or.inl rfl) (pe_op op_add pe_int (pe_has ht hr1 (pa_cons (pv 0) (pa_cons (pe_callB (call_min2 rfl) (by rfl) T.min b_min (pa_cons (pe_op op_sub (pv 1) pe_int)
        (pa_cons (pe_has ho hr (pa_cons (pv 0) (pa_cons (pe_lst (pa_cons pe_int (pa_cons pe_int (pa_cons pe_int (pa_cons pe_int pa_nil))))) pa_nil))) pa_nil))) pa_nil)))))
    (pss_cons (ps_if (PW.pt (pw_and (pt_cmpR op_gt (pe_op op_sub (pv 1) (pv 2)) pe_int (nomark _)) (pw_and1 (pt_cmpR op_eq (pe_has ht hr1 (pa_cons (pv 0) (pa_cons pe_int pa_nil))) pe_int (nomark _)))))
      (pss_one (ps_ret (pe_callTy (crTupX K rfl) (by rfl) T.tuple b_tuple (pa_cons (pe_revL (pe_callB cr_sorted (by rfl) T.sorted b_sorted (pa_cons (pe_lst (pa_cons (pv 2) (pa_cons (pe_op op_add pe_int (pe_has ht hr1 (pa_cons (pv 0)
        (pa_cons (pe_callB (call_min2 rfl) (by rfl) T.min b_min (pa_cons (pe_op op_sub (pe_op op_sub (pv 1) (pv 2)) pe_int) (pa_cons pe_int pa_nil))) pa_nil)))) pa_nil))) pa_nil))) pa_nil)))) pss_nil)
    (pss_one (ps_ret (pe_tupX (pa_cons (pv 2) pa_nil))))), ?_⟩
  refine ⟨_, rfl, _, rfl, _, _, rfl, rfl, _, rfl, by show 4 ≤ sizeLine; decide, fun t ht0 => ?_⟩
  have ne : t ≠ l := fun e => hs.ne ht0 e.symm
  refine ⟨l, t, [1, 1, 2, 5], rfl, hs.new ht0, upd_same, ne, by decide, by decide, fun H1 x sb1 sr1 hx => ?_⟩
  have hx : x = 1 ∨ x = 2 ∨ x = 5 := by simpa using hx
  have sb01 : Sb l H H1 := (Sb.refl.new ht0).trans sb1
  refine ⟨_, _, rfl, ?_⟩
  have em : ∃ m : Int, (if x < al - 1 then x else al - 1) = m ∧ 1 ≤ m ∧ m ≤ al - 1 := by
    refine ⟨_, rfl, ?_⟩
    split <;> omega
  obtain ⟨m, em, m1, m2⟩ := em
  rw [em]
  refine ⟨l, m, rfl, sr1, m1, b400 (by omega), fun H2 r sb2 sr2 r0 r1 => ?_⟩
  refine ⟨_, _, rfl, rfl, ?_⟩
  have sb02 := sb01.trans sb2
  obtain ⟨fi, efi, f2, f3⟩ : ∃ fi : Int, 2 + r = fi ∧ 2 ≤ fi ∧ fi ≤ al := ⟨_, rfl, by omega, by omega⟩
  show gName 2 (V.int (2 + r)) _ _ _
  rw [efi]
  refine ⟨_, rfl, _, rfl, _, _, rfl, rfl, _, _, rfl, rfl, _, rfl, ?_⟩
  have fin1 : ∀ (H' : Hp) (p : Addr) (o : Obj), Sb l H H' → Src H' l → H' p = none → o.dict = none → Q (.ref p) (upd H' p (.frz o (.tup [V.int fi]))) := fun H' p o sb sr hp ho =>
    q _ _ [fi] (sb.new hp) (sr.new hp) ⟨p, rfl, o, upd_same, ho⟩ ⟨by simp, fun s hs => by rw [List.mem_singleton.mp hs]; exact f2, List.pairwise_singleton _ _, by simp; omega⟩ (List.cons_ne_nil _ _) (by simpa using f3)
  refine ite2 (fun c => ?_) (fun c => ?_)
  · have c' : 1 < al - fi := of_decide_eq_true c
    refine ⟨_, rfl, l, 3, rfl, sr2, by decide, b400 (by decide), fun H3 r3 sb3 sr3 r30 r31 => ?_⟩
    have sb03 := sb02.trans sb3
    refine ⟨rfl, _, rfl, ?_⟩
    refine ite2 (fun d => ?_) (fun d => ?_)
    · refine ⟨_, rfl, _, rfl, _, rfl, _, rfl, _, _, rfl, rfl, _, _, rfl, rfl, _, _, rfl, ?_⟩
      have em2 : ∃ m : Int, (if (2 : Int) < al - fi - 1 then 2 else al - fi - 1) = m ∧ 1 ≤ m ∧ m ≤ al - fi - 1 := by
        refine ⟨_, rfl, ?_⟩
        split <;> omega
      obtain ⟨m', em2, m1', m2'⟩ := em2
      rw [em2]
      refine ⟨l, m', rfl, sr3, m1', b400 (by omega), fun H4 r4 sb4 sr4 r40 r41 => ?_⟩
      have sb04 := sb03.trans sb4
      refine ⟨_, _, rfl, rfl, by show 2 ≤ sizeLine; decide, fun t5 ht5 => ?_⟩
      refine ⟨t5, [fi, 2 + r4], rfl, SqL.of upd_same, (by show 2 < 64; decide), fun ns' p6 pm srt hp6 => ?_⟩
      refine ⟨p6, _, rfl, SqL.of upd_same, fun p7 hp7 => ?_⟩
      refine ⟨p7, _, rfl, SqL.of upd_same, fun p8 o hp8 ho8 => ?_⟩
      rw [← List.map_reverse] at hp8 ⊢
      have sb8 := (((sb04.new (o := .lst [.int fi, .int (2 + r4)]) ht5).new (o := .lst (ns'.map V.int)) hp6).new (p := p7) (o := .lst (ns'.reverse.map V.int)) hp7)
      have sr8 := (((sr4.new (o := .lst [.int fi, .int (2 + r4)]) ht5).new (o := .lst (ns'.map V.int)) hp6).new (p := p7) (o := .lst (ns'.reverse.map V.int)) hp7)
      refine q _ _ ns'.reverse (sb8.new hp8) (sr8.new hp8) ⟨p8, rfl, o, upd_same, ho8⟩ ?_ ?_ ?_
      · rcases two_sorted pm srt with ⟨rfl, h⟩ | ⟨rfl, h⟩
        · refine ⟨by simp, fun s hs => ?_, by simpa using h, by simp; omega⟩
          have : s = 2 + r4 ∨ s = fi := by simpa using hs
          omega
        · refine ⟨by simp, fun s hs => ?_, by simpa using h, by simp; omega⟩
          have : s = fi ∨ s = 2 + r4 := by simpa using hs
          omega
      · intro e
        have := pm.length_eq
        rw [List.reverse_eq_nil_iff.mp e] at this
        cases this
      · rcases two_sorted pm srt with ⟨rfl, h⟩ | ⟨rfl, h⟩ <;> (simp; omega)
    · exact ⟨_, rfl, by show 1 ≤ sizeLine; decide, fun p o hp ho => fin1 _ p o sb03 sr3 hp ho⟩
  · exact ⟨_, rfl, by show 1 ≤ sizeLine; decide, fun p o hp ho => fin1 _ p o sb02 sr2 hp ho⟩
end
end Dd

/-! drawn -/
namespace Dd
open PySem PySem.Spec PyProof.Rows L2 Dr Dh
def tCutT (t : TT) : TT := fun σ H Q => ∃ J : Bool → Hp → Prop, t σ H J ∧ ∀ b H', J b H' → Q b H'
theorem pt_cut {X : Cx} {e : Expr} {t : TT} (h : PT X e t) : PT X e (tCutT t) :=
  ⟨fun pins s σ H Q I hh => by
    obtain ⟨J, h1, h2⟩ := hh
    exact thn (h.run pins s σ H J I h1) fun b s' ⟨H', I', j⟩ => ⟨H', I', h2 b H' j⟩⟩
def tCutE (t : TE) : TE := fun σ H Q => ∃ J : VK, t σ H J ∧ ∀ v H', J v H' → Q v H'
theorem pe_cut {X : Cx} {e : Expr} {t : TE} (h : PE X e t) : PE X e (tCutE t) :=
  ⟨fun pins s σ H Q I hh => by
    obtain ⟨J, h1, h2⟩ := hh
    exact thn (h.run pins s σ H J I h1) fun b s' ⟨v, H', I', r, j⟩ => ⟨v, H', I', r, h2 v H' j⟩⟩
def tCutS (t : TS) : TS := fun D σ H => ∃ J : L2.St → Hp → Prop, t { D with nx := J } σ H ∧ ∀ σ' H', J σ' H' → D.nx σ' H'
theorem ps_cut {X : Cx} {st : Stmt} {t : TS} (h : PS X st t) : PS X st (tCutS t) :=
  ⟨fun pins s σ H D I hh => by
    obtain ⟨J, h1, h2⟩ := hh
    refine thn (h.run pins s σ H _ I h1) fun f s' z => ?_
    cases f with
    | next =>
      obtain ⟨σ', H', I', j⟩ := z
      exact ⟨σ', H', I', h2 σ' H' j⟩
    | brk => exact z
    | cont => exact z
    | ret u => exact z⟩
theorem rep_int (k : Nat) (d : Int) : (List.replicate k [V.int d]).flatten = (List.replicate k d).map V.int := by
  induction k with
  | zero => rfl
  | succ k ih => rw [List.replicate_succ, List.flatten_cons, ih]; rfl
theorem mem_le_sum : ∀ {l : List Int} {x : Int}, (∀ y ∈ l, 0 ≤ y) → x ∈ l → x ≤ l.sum
  | a :: l, x, h, hx => by
    have h1 := h a List.mem_cons_self
    have h2 := Dl.sum_nn fun y hy => h y (List.mem_cons_of_mem a hy)
    rw [List.sum_cons]
    rcases List.mem_cons.mp hx with e | e
    · omega
    · have := mem_le_sum (fun y hy => h y (List.mem_cons_of_mem a hy)) e
      omega
theorem take_le {l : List Int} (h : ∀ y ∈ l, 0 ≤ y) (d : Nat) : (l.take d).sum ≤ l.sum := by
  have e : l.sum = (l.take d).sum + (l.drop d).sum := by rw [← List.sum_append, List.take_append_drop]
  have := Dl.sum_nn (l := l.drop d) fun y hy => h y (List.mem_of_mem_drop hy)
  omega
section
variable {P : Program} {w : World} {K : PySem.W.Frag} {mg : Str → Option Value} {base : Heap}
theorem prX1_mono {H H' : Hp} {vs : List V} {xs : List (List Int)} (s : Stay K H H') (h : Paired (X1 H) vs xs) : Paired (X1 H') vs xs := pr_mono h fun _ _ z => z.mono s
/-- a pair (births, days) -/
def CalQ (K : PySem.W.Frag) (l : Addr) (n : Int) (H : Hp) (Q : VK) : Prop := ∀ r H' bv dv born ps, Sb l H H' → Src H' l → SqT K H' r [bv, dv] → X1 H' bv born → X2 K H' dv ps → Dl.CalOk born ps → (born.length : Int) = n → Q (.ref r) H'
def spDrawn (K : PySem.W.Frag) : Sp := fun vs H Q _ => ∃ (l : Addr) (n : Int), vs = [.ref l, .int n] ∧ Src H l ∧ 1 ≤ n ∧ n ≤ 12 ∧ CalQ K l n H Q
theorem ok_law_drawn (T : Txt K mg) (G : Giv K mg d_law_drawn) (ht : Has P w K mg base "_law_take" 1 ["_law_source", "_law_top"] spTake) (hp : Has P w K mg base "_law_pattern" 3 ["_law_source", "_law_alive"] spPatn) (hs : Has P w K mg base "_law_shuffled" 2 ["_law_source", "_law_things"] (spShuf K)) : Has P w K mg base "_law_drawn" 4 ["_law_source", "_law_n"] (spDrawn K) := by
  refine has_mk (d := d_law_drawn) (N := ["_law_source", "_law_n", "_law_many", "_law_order", "_law_days", "_law_alive", "_law_left", "_law_d", "_law_some"]) G ⟨rfl, rfl, rfl, by decide +kernel, rfl, by decide +kernel, by decide +kernel⟩ (fun _ _ _ _ _ _ us hl => match us, hl with | [_, _], _ => rfl) (fun vs H Q E h => by obtain ⟨v, ns, rfl, _⟩ := h; rfl) (fun f cdv A outer s H vs Q E hr h => ?_)
  obtain ⟨l, n, rfl, sr, n1, n12, q⟩ := h
  have nd : (["_law_source", "_law_n", "_law_many", "_law_order", "_law_days", "_law_alive", "_law_left", "_law_d", "_law_some"] : List Str).Nodup := by decide +kernel
  have hr1 : Room 1 (A.deeper (envOfC d_law_drawn.qual d_law_drawn.scope s.heap.objs.size f cdv)) := hr.mono (by decide)
  have hr2 : Room 2 (A.deeper (envOfC d_law_drawn.qual d_law_drawn.scope s.heap.objs.size f cdv)) := hr.mono (by decide)
  refine ⟨_, pss_cons (ps_par3 (i := 2) (j := 3) (l := 4) rfl nd rfl rfl rfl (by decide) (by decide) (by decide) rfl rfl rfl (pa_cons (pe_lst (pa_cons (pe_callB (call_max2 rfl) (by rfl) T.max b_max (pa_cons (pe_callB (call_min2 rfl) (by rfl) T.min b_min (pa_cons (pv 1) (pa_cons pe_int pa_nil)))
        (pa_cons (pe_op op_add pe_int (pe_has ht hr1 (pa_cons (pv 0) (pa_cons (pv 1) pa_nil)))) pa_nil))) pa_nil)) (pa_cons (pe_lst pa_nil) (pa_cons (pe_lst pa_nil) pa_nil))) (by rfl))
    (pss_cons (ps_par (i := 5) (j := 6) rfl nd rfl rfl (by decide) rfl rfl (pa_cons (pe_ix ix_list (pv 2) pe_int (fun _ _ => rfl)) (pa_cons (pe_op op_sub (pv 1) (pe_ix ix_list (pv 2) pe_int (fun _ _ => rfl))) pa_nil)) (by rfl))
    (pss_cons (ps_for PassesOwn.never rfl (pi_range1 (by rfl) T.range (pa_cons pe_int pa_nil)) (pg_name (i := 7) nd rfl (Or.inl rfl))
      (pss_one (ps_if (pt_cut (PW.pt (pw_and (pt_cmpR op_gt (pv 5) pe_int (nomark _)) (pw_and1 (PW.pt (pw_or (pt_cmpR op_gt (pv 6) pe_int (nomark _)) (pw_or1 (pt_cmpR op_gt (pe_has ht hr1 (pa_cons (pv 0) (pa_cons pe_int pa_nil))) pe_int (nomark _)))))))))
        (pss_cons (ps_expr (pe_bm PySem.F.plainAttrs_list PySem.F.slot_list_append PySem.F.type_list_append mt_append (pv 4) (pa_cons (pe_has hp hr (pa_cons (pv 0) (pa_cons (pv 5) pa_nil))) pa_nil)))
        (pss_cons (ps_set (i := 5) nd rfl (Or.inl rfl) (pe_op op_add (pe_op op_sub (pv 5) (pe_callB (cr_sumT rfl) (by rfl) T.sum b_sum (pa_cons (pe_ix ix_list (pv 4) (pe_un un_neg pe_int) (fun _ _ => rfl)) pa_nil))) (pe_callB call_len_seq (by rfl) T.len b_len (pa_cons (pe_ix ix_list (pv 4) (pe_un un_neg pe_int) (fun _ _ => rfl)) pa_nil))))
        (pss_cons (ps_set (i := 8) nd rfl (Or.inl rfl) (pe_cut (pe_ifExp (PW.pt (pw_or (pt_cmpR op_eq (pv 6) pe_int (nomark _)) (pw_or1 (pt_cmpR op_eq (pe_has ht hr1 (pa_cons (pv 0) (pa_cons pe_int pa_nil))) pe_int (nomark _))))) pe_int (pe_op op_add pe_int (pe_has ht hr1 (pa_cons (pv 0) (pa_cons (pv 6) pa_nil)))))))
        (pss_cons (ps_expr (pe_bm PySem.F.plainAttrs_list PySem.F.slot_list_append PySem.F.type_list_append mt_append (pv 2) (pa_cons (pv 8) pa_nil)))
        (pss_one (ps_par (i := 5) (j := 6) rfl nd rfl rfl (by decide) rfl rfl (pa_cons (pe_op op_add (pv 5) (pv 8)) (pa_cons (pe_op op_sub (pv 6) (pv 8)) pa_nil)) (by rfl))))))) pss_nil)))
    (pss_cons (ps_for PassesOwn.never rfl (pi_range1 (by rfl) T.range (pa_cons (pe_callB call_len_seq (by rfl) T.len b_len (pa_cons (pv 4) pa_nil)) pa_nil)) (pg_name (i := 7) nd rfl (Or.inl rfl))
      (pss_one (ps_set (i := 3) nd rfl (Or.inl rfl) (pe_op op_cat (pv 3) (pe_op op_rep (pe_lst (pa_cons (pv 7) pa_nil)) (pe_ix ix_list (pv 2) (pv 7) (fun _ _ => rfl)))))))
    (pss_cons (ps_set (i := 3) nd rfl (Or.inl rfl) (pe_op op_cat (pv 3) (pe_op op_rep (pe_lst (pa_cons (pe_callB call_len_seq (by rfl) T.len b_len (pa_cons (pv 4) pa_nil)) pa_nil)) (pe_op op_sub (pv 1) (pe_callB call_len_seq (by rfl) T.len b_len (pa_cons (pv 3) pa_nil))))))
    (pss_one (ps_ret (pe_tup (pa_cons (pe_callTy (crTupX K rfl) (by rfl) T.tuple b_tuple (pa_cons (pe_has hs hr2 (pa_cons (pv 0) (pa_cons (pv 3) pa_nil))) pa_nil)) (pa_cons (pe_callTy (crTup K rfl) (by rfl) T.tuple b_tuple (pa_cons (pv 4) pa_nil)) pa_nil))))))))), ?_⟩
  refine ⟨_, rfl, _, _, rfl, _, rfl, _, rfl, l, n, rfl, sr, n1, b400 (by omega), fun H1 r sb1 sr1 r0 r1 => ?_⟩
  refine ⟨_, _, rfl, rfl, _, _, rfl, ?_⟩
  obtain ⟨m, em, m1, m2⟩ : ∃ m : Int, (if 1 + r > (if (2 : Int) < n then 2 else n) then 1 + r else (if (2 : Int) < n then 2 else n)) = m ∧ 1 ≤ m ∧ m ≤ n := by
    refine ⟨_, rfl, ?_⟩
    split <;> split <;> omega
  rw [em]
  refine ⟨by show 1 ≤ sizeLine; decide, fun MA hMA => ⟨by show 0 ≤ sizeLine; decide, fun OR hOR => ⟨by show 0 ≤ sizeLine; decide, fun DA hDA => ⟨_, _, _, rfl, ?_⟩⟩⟩⟩
  have sM := sm_new (o := .lst [.int m]) (Same.refl H1) hMA
  have sO := sm_new (o := .lst []) sM hOR
  have sD := sm_new (o := .lst []) sO hDA
  have hOR1 := sm_none sM hOR
  have hDA1 := sm_none sO hDA
  have eM := upd_at (o' := .lst []) (upd_at (o' := .lst []) (upd_same (H := H1) (a := MA) (o := .lst [.int m])) hOR) hDA
  have eO := upd_at (o' := .lst []) (upd_same (H := upd H1 MA (.lst [.int m])) (a := OR) (o := .lst [])) hDA
  have eD : (upd (upd (upd H1 MA (.lst [.int m])) OR (.lst [])) DA (.lst [])) DA = some (.lst []) := upd_same
  have sr2 := sr1.same sD
  generalize upd (upd (upd H1 MA (.lst [.int m])) OR (.lst [])) DA (.lst []) = H2 at sD eM eO eD sr2 ⊢
  have nM := sr1.ne hMA
  have nO := sr1.ne hOR1
  have nD := sr1.ne hDA1
  have nMO : MA ≠ OR := ne_of_none upd_same hOR
  have nMD : MA ≠ DA := ne_of_none (upd_at upd_same hOR) hDA
  have nOD : OR ≠ DA := ne_of_none upd_same hDA
  refine ⟨_, rfl, MA, _, 0, _, rfl, rfl, SqL.of eM, atI_nat (j := 0) rfl, _, rfl, _, rfl, MA, _, 0, _, rfl, rfl, SqL.of eM, atI_nat (j := 0) rfl, _, _, rfl, rfl, _, _, rfl, ?_⟩
  refine ⟨6, rfl, by decide, by decide, for_it (walk_range (lo := 0) (n := 6)) (fun k σ H' => Sb l H1 H' ∧ Src H' l ∧ ∃ M ps al lf vs z7 z8, σ = [some (.ref l), some (.int n), some (.ref MA), some (.ref OR), some (.ref DA), some (.int al), some (.int lf), z7, z8] ∧ H' MA = some (.lst (M.map V.int)) ∧ H' OR = some (.lst []) ∧ H' DA = some (.lst vs) ∧ Paired (X1 H') vs ps ∧ Dl.Drw n M ps al lf ∧ ps.length ≤ k)
    ⟨.of sD, sr2, [m], [], m, n - m, [], none, none, rfl, eM, eO, eD, .nil, .start m1 m2, Nat.le_refl _⟩ (fun _ _ _ _ _ => trivial) ?_ ?_⟩
  · rintro k x σ H3 H4 hk ⟨sb3, sr3, M, ps, al, lf, vs, z7, z8, rfl, eM, eO, eD, pr, dr, pk⟩ ⟨rfl, rfl⟩
    have an := dr.an
    have ml := dr.ml
    refine ⟨fun b H' => Sb l H4 H' ∧ Src H' l ∧ (b = true → 2 ≤ al), ?_, ?_⟩
    · refine ⟨_, rfl, _, _, rfl, rfl, _, rfl, ?_⟩
      refine ite2 (fun c => ?_) (fun c => ⟨.refl, sr3, fun e => by cases e⟩)
      have c' : 1 < al := of_decide_eq_true c
      refine ⟨_, rfl, _, _, rfl, rfl, _, rfl, ?_⟩
      refine ite2 (fun d => ⟨.refl, sr3, fun _ => by omega⟩) (fun d => ?_)
      refine ⟨_, rfl, l, 6, rfl, sr3, by decide, b400 (by decide), fun H5 r5 sb5 sr5 _ _ => ?_⟩
      exact ⟨_, _, rfl, rfl, _, rfl, sb5, sr5, fun _ => by omega⟩
    rintro b H5 ⟨sb5, sr5, hb⟩
    have sb35 := sb3.trans sb5
    have eM5 := sb5 _ _ (fun e => nM e.symm) eM
    have eO5 := sb5 _ _ (fun e => nO e.symm) eO
    have eD5 := sb5 _ _ (fun e => nD e.symm) eD
    have pr5 := prX1_mono (sb_stay (K := K) sr3 sb5) pr
    cases b with
    | false => exact iteF ⟨sb35, sr5, M, ps, al, lf, vs, _, _, rfl, eM5, eO5, eD5, pr5, dr, by omega⟩
    | true =>
    have al2 := hb rfl
    refine iteT ?_
    refine ⟨_, rfl, .inl ⟨rfl, _, SqL.of eD5⟩, _, rfl, _, rfl, l, al, rfl, sr5, al2, by omega, fun z H6 p sb6 sr6 hz pp pn psum => ?_⟩
    have eM6 := sb6 _ _ (fun e => nM e.symm) eM5
    have eO6 := sb6 _ _ (fun e => nO e.symm) eO5
    have eD6 := sb6 _ _ (fun e => nD e.symm) eD5
    have pr6 := prX1_mono (sb_stay (K := K) sr5 sb6) pr5
    refine ⟨DA, vs, _, rfl, rfl, eD6, lt_line (by rw [pr_len pr]; omega), ?_⟩
    have st7 := stay_lst (K := K) (o := .lst (vs ++ [z])) eD6
    have sb7 : Sb l H1 (upd H6 DA (.lst (vs ++ [z]))) := (sb35.trans sb6).put hDA1
    have sr7 : Src (upd H6 DA (.lst (vs ++ [z]))) l := sr6.put nD
    have eM7 : (upd H6 DA (.lst (vs ++ [z]))) MA = _ := (upd_ne nMD).trans eM6
    have eO7 : (upd H6 DA (.lst (vs ++ [z]))) OR = _ := (upd_ne nOD).trans eO6
    have eD7 : (upd H6 DA (.lst (vs ++ [z]))) DA = some (.lst (vs ++ [z])) := upd_same
    have pr7 : Paired (X1 (upd H6 DA (.lst (vs ++ [z])))) (vs ++ [z]) (ps ++ [p]) := pr_snoc (prX1_mono st7 pr6) (hz.mono st7)
    obtain ⟨ap, rfl, hap⟩ := hz.mono st7
    generalize upd H6 DA (.lst (vs ++ [.ref ap])) = H7 at sb7 sr7 eM7 eO7 eD7 pr7 hap ⊢
    refine ⟨_, rfl, _, rfl, _, rfl, DA, _, _, _, rfl, rfl, SqL.of eD7, atI_last vs _, ap, p, rfl, hap.sqT, _, _, rfl, rfl, _, rfl, _, rfl, DA, _, _, _, rfl, rfl, SqL.of eD7, atI_last vs _, ap, _, rfl, .inr hap.sqT, ?_⟩
    rw [List.length_map]
    refine ⟨_, _, rfl, rfl, ?_⟩
    refine ⟨fun v H' => ∃ s, v = .int s ∧ 0 ≤ s ∧ s ≤ lf ∧ Sb l H7 H' ∧ Src H' l, ?_, ?_⟩
    · refine ⟨_, rfl, rfl, _, rfl, ?_⟩
      refine ite2 (fun d => ⟨0, rfl, by decide, dr.l0, .refl, sr7⟩) (fun d => ?_)
      have lf1 : 1 ≤ lf := by
        have h0 := dr.l0
        by_cases e : lf = 0
        · subst e; exact absurd (decide_eq_true rfl) d
        · omega
      refine ⟨_, rfl, l, 2, rfl, sr7, by decide, b400 (by decide), fun H8 r8 sb8 sr8 _ _ => ?_⟩
      refine ⟨rfl, _, rfl, ?_⟩
      refine ite2 (fun d => ⟨0, rfl, by decide, dr.l0, sb8, sr8⟩) (fun d => ?_)
      refine ⟨_, rfl, _, rfl, l, lf, rfl, sr8, lf1, b400 (by have := Dl.sum_nn dr.m0; have := dr.lf; omega), fun H9 r9 sb9 sr9 h0 h1 => ?_⟩
      exact ⟨_, _, rfl, rfl, _, rfl, by omega, by omega, sb8.trans sb9, sr9⟩
    rintro v H8 ⟨s, rfl, s0, s1, sb8, sr8⟩
    have eM8 := sb8 _ _ (fun e => nM e.symm) eM7
    have eO8 := sb8 _ _ (fun e => nO e.symm) eO7
    have eD8 := sb8 _ _ (fun e => nD e.symm) eD7
    have pr8 := prX1_mono (sb_stay (K := K) sr7 sb8) pr7
    refine ⟨_, rfl, .inl ⟨rfl, _, SqL.of eM8⟩, _, rfl, MA, _, _, rfl, rfl, eM8, lt_line (by rw [List.length_map]; omega), ?_⟩
    have st9 := stay_lst (K := K) (o := .lst (M.map V.int ++ [.int s])) eM8
    refine ⟨_, rfl, _, rfl, _, _, rfl, rfl, _, rfl, _, rfl, _, _, rfl, rfl, _, _, rfl, ?_⟩
    refine ⟨(sb7.trans sb8).put hMA, sr8.put nM, M ++ [s], ps ++ [p], _, _, vs ++ [.ref ap], _, _, rfl, ?_, (upd_ne (fun e => nMO e.symm)).trans eO8, (upd_ne (fun e => nMD e.symm)).trans eD8, prX1_mono st9 pr8, dr.step pp pn psum s0 s1, ?_⟩
    · rw [List.map_append]; exact upd_same
    · rw [List.length_append]; show ps.length + 1 ≤ _; omega
  rintro σ H3 ⟨sb3, sr3, M, ps, al, lf, vs, z7, z8, rfl, eM, eO, eD, pr, dr, pk⟩
  have an := dr.an
  have ml := dr.ml
  have lp := pr_len pr
  have hlf := dr.lf
  have hl0 := dr.l0
  have ol : ∀ d : Nat, d ≤ M.length → ((Dl.ordr M d).length : Int) ≤ n := fun d hd => by
    rw [Dl.ordr_len dr.m0 d hd]
    have := take_le dr.m0 d
    omega
  refine ⟨_, rfl, DA, _, rfl, .inl (SqL.of eD), ?_⟩
  rw [lp]
  refine ⟨_, rfl, by omega, by omega, ?_⟩
  rw [Int.toNat_natCast]
  refine for_it (walk_range (lo := 0) (n := ps.length)) (fun d σ H' => Same H3 H' ∧ ∃ oa z7, σ = [some (.ref l), some (.int n), some (.ref MA), some (.ref oa), some (.ref DA), some (.int al), some (.int lf), z7, z8] ∧ H' oa = some (.lst ((Dl.ordr M d).map V.int)))
    ⟨Same.refl H3, OR, z7, rfl, eO⟩ (fun _ _ _ _ _ => trivial) ?_ ?_
  · rintro d x σ H4 H5 hd ⟨s4, oa, z7, rfl, eo⟩ ⟨rfl, rfl⟩
    have gm : M[d]? = some M[d] := List.getElem?_eq_getElem (by omega)
    have gd : M.getD d 0 = M[d] := getD_of gm
    have m0 := dr.m0 M[d] (List.getElem_mem (by omega))
    have mn := mem_le_sum dr.m0 (List.getElem_mem (show d < M.length by omega))
    have o1 := ol d (by omega)
    have o2 := ol (d + 1) (by omega)
    refine ⟨_, rfl, _, rfl, by show 1 ≤ sizeLine; decide, fun t1 ht1 => ?_⟩
    have s5 := sm_new (o := .lst [.int (0 + (d : Nat))]) s4 ht1
    refine ⟨_, rfl, _, rfl, MA, _, _, _, rfl, rfl, SqL.of (s5 _ _ eM), at_of (j := d) (by omega) (int_at gm), t1, _, _, rfl, rfl, upd_same, by omega, by omega, ?_, fun t2 ht2 => ?_⟩
    · show 1 * _ ≤ sizeLine
      exact le_line (by omega)
    rw [rep_int]
    refine ⟨oa, t2, _, _, rfl, rfl, upd_at (upd_at eo ht1) ht2, upd_same, ?_, fun t3 ht3 => ?_⟩
    · rw [List.length_map, List.length_map, List.length_replicate]
      exact le_line (by omega)
    refine ⟨sm_new (sm_new s5 ht2) ht3, t3, _, rfl, ?_⟩
    rw [Dl.ordr_succ, List.map_append, gd]
    have e0 : (0 : Int) + ((d : Nat) : Int) = ((d : Nat) : Int) := by omega
    rw [e0]
    exact upd_same
  rintro σ H4 ⟨s4, oa, z7, rfl, eo⟩
  have o1 := ol ps.length (by omega)
  have eD4 := s4 _ _ eD
  refine ⟨_, rfl, _, rfl, DA, _, rfl, .inl (SqL.of eD4), by show 1 ≤ sizeLine; decide, fun t1 ht1 => ?_⟩
  refine ⟨_, rfl, _, rfl, oa, _, rfl, .inl (SqL.of (upd_at eo ht1)), ?_⟩
  rw [List.length_map, lp]
  refine ⟨_, _, rfl, rfl, t1, _, _, rfl, rfl, upd_same, by omega, by omega, ?_, fun t2 ht2 => ?_⟩
  · show 1 * _ ≤ sizeLine
    exact le_line (by omega)
  rw [rep_int]
  refine ⟨oa, t2, _, _, rfl, rfl, upd_at (upd_at eo ht1) ht2, upd_same, ?_, fun t3 ht3 => ?_⟩
  · rw [List.length_map, List.length_map, List.length_replicate]
    exact le_line (by omega)
  rw [← List.map_append]
  have s5 : Same H3 _ := sm_new (o := .lst ((Dl.ordr M ps.length ++ List.replicate (n - ((Dl.ordr M ps.length).length : Nat)).toNat ((ps.length : Nat) : Int)).map V.int)) (sm_new (o := .lst ((List.replicate (n - ((Dl.ordr M ps.length).length : Nat)).toNat ((ps.length : Nat) : Int)).map V.int)) (sm_new (o := .lst [.int (ps.length : Nat)]) s4 ht1) ht2) ht3
  refine ⟨_, rfl, _, rfl, l, t3, _, rfl, sr3.same s5, SqL.of upd_same, ?_, fun z H6 ms sb6 sr6 hz ez pm => ?_⟩
  · rw [List.length_append, List.length_replicate]
    omega
  have cal := dr.cal n12 (by omega) pm
  have eD6 := sb6 _ _ (fun e => nD e.symm) (s5 _ _ eD)
  have pr6 := prX1_mono ((sm_stay (K := K) s5).trans (sb_stay (sr3.same s5) sb6)) pr
  refine ⟨z, _, rfl, SqL.of ez, fun p o hp ho => ?_⟩
  refine ⟨_, rfl, DA, _, rfl, .inl ⟨SqL.of (upd_at eD6 hp), fun t hp2 => ?_⟩⟩
  refine ⟨by show 2 ≤ sizeLine; decide, fun r2 hr3 => ?_⟩
  have sbf : Sb l H _ := ((((sb1.trans sb3).same s5).trans sb6).new (o := .frz o (.tup (ms.map V.int))) hp).new (o := .tup vs) hp2
  have srf : Src _ l := (sr6.new (o := .frz o (.tup (ms.map V.int))) hp).new (o := .tup vs) hp2
  refine q _ _ _ _ _ _ (sbf.new hr3) (srf.new hr3) (SqT.of upd_same) ⟨p, rfl, o, upd_at (upd_at upd_same hp2) hr3, ho⟩ ⟨t, vs, rfl, SqT.of (upd_at upd_same hr3), prX1_mono (((stay_new (K := K) hp).trans (stay_new hp2)).trans (stay_new hr3)) pr6⟩ cal.1 cal.2
end
end Dd

/-! great -/
namespace Dd
open PySem PySem.Spec PyProof.Rows L2 Dr Dh
def rRepM (K : PySem.W.Frag) : R2 := fun x y H Q => ∃ l k xs, x = .ref l ∧ y = .int k ∧ SqT K H l xs ∧ xs ≠ [] ∧ 1 ≤ k ∧ k ≤ 1000 ∧ xs.length ≤ 1000 ∧ ∀ z H', Same H H' → SqT K H' z (List.replicate k.toNat xs).flatten → Q (.ref z) H'
theorem op_repM {X : Cx} : OpR X (binaryOp .Mult) (rRepM X.K) := by
  intro pins s σ H x y v u Q I rx ry h
  obtain ⟨l, k, xs, rfl, rfl, hT, hne, h1, h2, hz, q⟩ := h
  by_cases e : k = 1
  · subst e
    refine op_rep1 pins s σ H _ _ v u Q I rx ry ⟨l, xs, rfl, rfl, hT, q _ _ (Same.refl H) ?_⟩
    have : (List.replicate (1 : Int).toNat xs).flatten = xs := by simp
    rw [this]
    exact hT
  · refine op_repT pins s σ H _ _ v u Q I rx ry ⟨l, k, xs, rfl, rfl, hT, hne, by omega, h2, hz, fun p hp => q _ _ (sm_new (Same.refl H) hp) (SqT.of upd_same)⟩
theorem pr_rep {α β : Type} {R : α → β → Prop} {a : α} {b : β} (h : R a b) : ∀ n : Nat, Paired R (List.replicate n a) (List.replicate n b)
  | 0 => .nil
  | n + 1 => .cons h (pr_rep h n)
theorem rep_one {α : Type} (n : Nat) (a : α) : (List.replicate n [a]).flatten = List.replicate n a := by
  induction n with
  | zero => rfl
  | succ n ih => rw [List.replicate_succ, List.flatten_cons, ih]; rfl
section
variable {P : Program} {w : World} {K : PySem.W.Frag} {mg : Str → Option Value} {base : Heap}
def spGreat (K : PySem.W.Frag) : Sp := fun vs H Q _ => ∃ (l : Addr), vs = [.ref l] ∧ Src H l ∧ CalQ K l 12 H Q
theorem ok_law_great (T : Txt K mg) (G : Giv K mg d_law_great) (ht : Has P w K mg base "_law_take" 1 ["_law_source", "_law_top"] spTake) (hs : Has P w K mg base "_law_shuffled" 2 ["_law_source", "_law_things"] (spShuf K)) : Has P w K mg base "_law_great" 3 ["_law_source"] (spGreat K) := by
  refine has_mk (d := d_law_great) (N := ["_law_source", "_law_first", "_law_m", "_law_order", "_law_k"]) G ⟨rfl, rfl, rfl, by decide +kernel, rfl, by decide +kernel, by decide +kernel⟩ (fun _ _ _ _ _ _ us hl => match us, hl with | [_], _ => rfl) (fun vs H Q E h => by obtain ⟨v, rfl, _⟩ := h; rfl) (fun f cdv A outer s H vs Q E hr h => ?_)
  obtain ⟨l, rfl, sr, q⟩ := h
  have nd : (["_law_source", "_law_first", "_law_m", "_law_order", "_law_k"] : List Str).Nodup := by decide +kernel
  have hr1 : Room 1 (A.deeper (envOfC d_law_great.qual d_law_great.scope s.heap.objs.size f cdv)) := hr.mono (by decide)
  refine ⟨_, pss_cons (ps_set (i := 1) nd rfl (Or.inl rfl) (pe_op op_add pe_int (pe_has ht hr1 (pa_cons (pv 0) (pa_cons pe_int pa_nil)))))
    (pss_cons (ps_set (i := 2) nd rfl (Or.inr rfl) (pe_op op_add pe_int (pe_has ht hr1 (pa_cons (pv 0) (pa_cons (pe_op op_sub (pv 1) pe_int) pa_nil)))))
    (pss_cons (ps_set (i := 3) nd rfl (Or.inl rfl) (pe_op op_cat (pe_op op_rep (pe_lst (pa_cons pe_int pa_nil)) (pv 1))
      (pe_lc (own := [("_law_k", 4)]) (g := gName 4) (tt := tYes) rfl nd (pi_range1 (by rfl) T.range (pa_cons (pe_op op_sub pe_int (pv 1)) pa_nil))
        (blkOk_by (N := ["_law_source", "_law_first", "_law_m", "_law_order", "_law_k"]) (sc := d_law_great.scope) (by decide +kernel))
        (fun _ _ _ _ _ => pg_name (i := 4) nd rfl (Or.inl rfl)) (fun _ _ _ _ _ => pts_nil) (fun _ _ _ _ _ => pe_has ht hr1 (pa_cons (pv 0) (pa_cons (pe_op op_add (pv 2) pe_int) pa_nil))))))
    (pss_one (ps_ret (pe_tup (pa_cons (pe_callTy (crTupX K rfl) (by rfl) T.tuple b_tuple (pa_cons (pe_has hs hr (pa_cons (pv 0) (pa_cons (pv 3) pa_nil))) pa_nil)) (pa_cons (pe_op op_repM (pe_tup (pa_cons (pe_tupX (pa_cons pe_int pa_nil)) pa_nil)) (pv 2)) pa_nil))))))), ?_⟩
  refine ⟨_, rfl, l, 9, rfl, sr, by decide, b400 (by decide), fun H1 r1 sb1 sr1 r10 r11 => ?_⟩
  refine ⟨_, _, rfl, rfl, ?_⟩
  obtain ⟨fi, efi, f4, f12⟩ : ∃ fi : Int, 4 + r1 = fi ∧ 4 ≤ fi ∧ fi ≤ 12 := ⟨_, rfl, by omega, by omega⟩
  show gName 1 (V.int (4 + r1)) _ _ _
  rw [efi]
  refine ⟨_, rfl, _, rfl, _, _, rfl, rfl, l, fi - 1, rfl, sr1, by omega, b400 (by omega), fun H2 r2 sb2 sr2 r20 r21 => ?_⟩
  refine ⟨_, _, rfl, rfl, ?_⟩
  obtain ⟨m, em, m1, mf⟩ : ∃ m : Int, 1 + r2 = m ∧ 1 ≤ m ∧ m < fi := ⟨_, rfl, by omega, by omega⟩
  show gName 2 (V.int (1 + r2)) _ _ _
  rw [em]
  refine ⟨by show 1 ≤ sizeLine; decide, fun t1 ht1 => ?_⟩
  have sb02 := sb1.trans sb2
  have sb3 := sb02.new (o := .lst [.int 0]) ht1
  have sr3 := sr2.new (o := .lst [.int 0]) ht1
  refine ⟨_, rfl, t1, _, _, rfl, rfl, upd_same, by omega, by omega, ?_, fun t2 ht2 => ?_⟩
  · show 1 * _ ≤ sizeLine
    exact le_line (by omega)
  rw [rep_int]
  have sb4 := sb3.new (o := .lst ((List.replicate fi.toNat (0 : Int)).map V.int)) ht2
  have sr4 := sr3.new (o := .lst ((List.replicate fi.toNat (0 : Int)).map V.int)) ht2
  have n2 := sr3.ne ht2
  have e2 : (upd (upd H2 t1 (.lst [.int 0])) t2 (.lst ((List.replicate fi.toNat (0 : Int)).map V.int))) t2 = some (.lst ((List.replicate fi.toNat (0 : Int)).map V.int)) := upd_same
  generalize upd (upd H2 t1 (.lst [.int 0])) t2 (.lst ((List.replicate fi.toNat (0 : Int)).map V.int)) = H4 at sb4 sr4 e2 ⊢
  refine ⟨_, rfl, _, _, rfl, rfl, _, rfl, by omega, by omega, fun D hD => ?_⟩
  have nD := sr4.ne hD
  have n2D : t2 ≠ D := ne_of_none e2 hD
  have en : (12 - fi).toNat = 12 - fi.toNat := by omega
  rw [en]
  refine lc_range (lo := 0) (n := 12 - fi.toNat) (fun i H' => Sb l H4 H' ∧ Src H' l ∧ ∃ xs : List Int, H' D = some (.lst (xs.map V.int)) ∧ H' t2 = some (.lst ((List.replicate fi.toNat (0 : Int)).map V.int)) ∧ xs.length = i ∧ ∀ x ∈ xs, 0 ≤ x ∧ x ≤ m)
    ⟨Sb.refl.new hD, sr4.new hD, [], upd_same, upd_at e2 hD, rfl, (fun _ h => by cases h)⟩ ?_ ?_
  · rintro i H5 hi ⟨sb5, sr5, xs, eD, e25, xl, xm⟩
    refine ⟨rfl, lcY ?_⟩
    refine ⟨_, rfl, _, rfl, _, _, rfl, rfl, l, m + 1, rfl, sr5, by omega, b400 (by omega), fun H6 r6 sb6 sr6 r60 r61 => ?_⟩
    have eD6 := sb6 _ _ (fun e => nD e.symm) eD
    have e26 := sb6 _ _ (fun e => n2 e.symm) e25
    refine ⟨_, eD6, lt_line (by rw [List.length_map]; omega), (sb5.trans sb6).put hD, sr6.put nD, xs ++ [r6], ?_, (upd_ne n2D).trans e26, by rw [List.length_append, xl]; rfl, fun x hx => ?_⟩
    · rw [List.map_append]; exact upd_same
    · rcases List.mem_append.mp hx with h | h
      · exact xm x h
      · rw [List.mem_singleton.mp h]; omega
  rintro H5 ⟨sb5, sr5, xs, eD, e25, xl, xm⟩
  refine ⟨t2, D, _, _, rfl, rfl, e25, eD, ?_, fun t3 ht3 => ?_⟩
  · rw [List.length_map, List.length_map, List.length_replicate]
    exact le_line (by omega)
  rw [← List.map_append]
  have sr6 := sr5.new (o := .lst ((List.replicate fi.toNat (0 : Int) ++ xs).map V.int)) ht3
  have sb6 := (sb4.trans sb5).new (o := .lst ((List.replicate fi.toNat (0 : Int) ++ xs).map V.int)) ht3
  refine ⟨_, rfl, _, rfl, l, t3, _, rfl, sr6, SqL.of upd_same, ?_, fun z H7 ms sb7 sr7 hz ez pm => ?_⟩
  · rw [List.length_append, List.length_replicate]
    omega
  have cal := Dl.great_cal (f := fi.toNat) (m := m.toNat) (xs := xs) (born := ms) (by omega) (by omega) (by omega) (by omega) (fun x hx => by have := xm x hx; omega) pm
  refine ⟨z, _, rfl, SqL.of ez, fun p o hp ho => ?_⟩
  refine ⟨by show 1 ≤ sizeLine; decide, fun p2 o2 hp2 ho2 => ?_⟩
  refine ⟨by show 1 ≤ sizeLine; decide, fun p3 hp3 => ?_⟩
  have sb8 := (((sb6.trans sb7).new (o := .frz o (.tup (ms.map V.int))) hp).new (o := .frz o2 (.tup [.int 2])) hp2).new (o := .tup [.ref p2]) hp3
  have sr8 := ((sr7.new (o := .frz o (.tup (ms.map V.int))) hp).new (o := .frz o2 (.tup [.int 2])) hp2).new (o := .tup [.ref p2]) hp3
  refine ⟨_, rfl, p3, m, [.ref p2], rfl, rfl, SqT.of upd_same, List.cons_ne_nil _ _, m1, by omega, (by show 1 ≤ 1000; decide), fun z9 H9 s9 hz9 => ?_⟩
  rw [rep_one] at hz9
  refine ⟨by show 2 ≤ sizeLine; decide, fun r hr3 => ?_⟩
  have s10 := sm_new (o := .tup [.ref p, .ref z9]) s9 hr3
  refine q _ _ _ _ _ _ (sb8.same s10) (sr8.same s10) (SqT.of upd_same) (X1.same s10 ⟨p, rfl, o, upd_at (upd_at upd_same hp2) hp3, ho⟩) ⟨z9, _, rfl, (stay_new hr3).t _ _ hz9, pr_rep (X1.same s10 ⟨p2, rfl, o2, upd_at upd_same hp3, ho2⟩) m.toNat⟩ cal.1 (by rw [cal.2]; rfl)
end
end Dd

/-! the law: what it leans on -/
namespace Dd
open PySem PySem.Spec PyProof.Rows L2 Dr Dh
theorem alv_congr {born born' : List Int} (days : List (List Int)) (h : ∀ b, born.count b = born'.count b) (i : Nat) : Dl.alv born days i = Dl.alv born' days i := by
  unfold Dl.alv
  rw [Dl.nowA_congr days h i, h]
theorem size_congr {born born' : List Int} (days : List (List Int)) (h : ∀ b, born.count b = born'.count b) : Dl.sizeI born days = Dl.sizeI born' days := by
  unfold Dl.sizeI Dl.wayL
  congr 1
  exact List.map_congr_left fun i _ => by rw [alv_congr days h i]
theorem cs_congr {born born' : List Int} (days : List (List Int)) (h : ∀ b, born.count b = born'.count b) : csOf born days = csOf born' days := by
  unfold csOf
  exact List.map_congr_left fun i _ => by rw [alv_congr days h i]
theorem y_mod {n x t : Int} (x0 : 0 ≤ x) (x1 : x < n) (t0 : 0 ≤ t) (t1 : t < n - 1) : 0 ≤ (x + 1 + t).fmod n ∧ (x + 1 + t).fmod n < n ∧ x ≠ (x + 1 + t).fmod n := by
  have hn : 0 < n := by omega
  refine ⟨Int.fmod_nonneg_of_pos _ hn, Int.fmod_lt_of_pos _ hn, ?_⟩
  rw [Int.fmod_eq_emod_of_nonneg _ (by omega)]
  by_cases h : x + 1 + t < n
  · rw [Int.emod_eq_of_lt (by omega) h]
    omega
  · have e : (x + 1 + t) % n = (x + 1 + t - n) % n := by rw [Int.sub_emod_right]
    rw [e, Int.emod_eq_of_lt (by omega) (by omega)]
    omega
def dShr (f : Int × (Int × Int)) : PyData := .tuple [.int f.1, .tuple [.int f.2.1, .int f.2.2]]
def d3 (fs : List (Int × (Int × Int))) : PyData := .tuple (fs.map dShr)
theorem lay3 : ∀ fs : List (Int × (Int × Int)), PyData.canLayAll0 (fs.map dShr) = true
  | [] => rfl
  | f :: fs => by
    simp only [List.map_cons, PyData.canLayAll0, dShr, PyData.canLay0, Bool.true_and]
    exact lay3 fs
theorem dep3 : ∀ fs : List (Int × (Int × Int)), PyData.depthAll (fs.map dShr) ≤ 3
  | [] => by simp [PyData.depthAll]
  | f :: fs => by
    have := dep3 fs
    simp only [List.map_cons, PyData.depthAll, dShr, PyData.depth]
    omega
theorem sh3 (fs : List (Int × (Int × Int))) : SeqAt.shaped (d3 fs) = true := by
  unfold SeqAt.shaped d3
  rw [Bool.and_eq_true]
  refine ⟨by simp only [PyData.canLay0]; exact lay3 fs, decide_eq_true ?_⟩
  have := dep3 fs
  simp only [PyData.depth]
  omega
theorem eqv3 (fs : List (Int × (Int × Int))) : PyData.eqv (d3 fs) (d3 fs) = true := SeqAt.eqv_refl _ (SeqAt.canLay_of_shaped (sh3 fs))
theorem PRt.dp {K : PySem.W.Frag} {H : Hp} {v : V} {fs : List (Int × (Int × Int))} (h : PRt K H v fs) : Dp K H v (d3 fs) := by
  obtain ⟨a, vs, rfl, q, r⟩ := h
  refine .tup q ?_
  clear q
  induction r with
  | nil => exact .nil
  | cons r _ ih =>
    obtain ⟨a, u, rfl, h1, b, rfl, h2⟩ := r
    exact .cons (.tup h1 (.cons (.int _) (.cons (.tup h2 (.cons (.int _) (.cons (.int _) .nil))) .nil))) ih
theorem PRt.same {K : PySem.W.Frag} {H H' : Hp} {v : V} {fs : List (Int × (Int × Int))} (s : Same H H') (h : PRt K H v fs) : PRt K H' v fs := h.mono (sm_stay s)
theorem sqL_same {K : PySem.W.Frag} {H H' : Hp} {a : Addr} {xs : List V} (s : Same H H') (h : SqL K H a xs) : SqL K H' a xs := by
  rcases h with (h | ⟨u, h⟩) | h
  · exact .inl (.inl (s _ _ h))
  · exact .inl (.inr ⟨u, s _ _ h⟩)
  · exact .inr h
/-- a new list may change -/
theorem Sb.over {l : Addr} {H0 H H' : Hp} (s : Same H0 H) (n : H0 l = none) (b : Sb l H H') : Same H0 H' := fun c u h => b c u (fun e => by rw [e, n] at h; cases h) (s c u h)
theorem CalV.sb {K : PySem.W.Frag} {C l : Addr} {H H' : Hp} {v : V} {born : List Int} {days : List (List Int)} (r : Src H l) (s : Sb l H H') (h : CalV K C H v born days) : CalV K C H' v born days := by
  have st := sb_stay (K := K) r s
  obtain ⟨p, dx, bv, dv, e, h1, h2, h3⟩ := h
  obtain ⟨a, m, ea, _⟩ := r
  exact ⟨p, dx, bv, dv, e, s _ _ (fun z => by rw [z, ea] at h1; cases h1) h1, h2.mono st, h3.mono st⟩
theorem TrV.sb {K : PySem.W.Frag} {C l : Addr} {H H' : Hp} {u v : V} {born : List Int} {days : List (List Int)} {tree : List (List (List Int))} (r : Src H l) (s : Sb l H H') (h : TrV K C H u v born days tree) : TrV K C H' u v born days tree :=
  ⟨h.cal.sb r s, h.tr.mono (sb_stay r s), h.ok, h.b12, h.dl⟩
theorem scal_met (o : Option Nat) : scal (metV o) (metV o) = true := by cases o <;> rfl
end Dd

/-! the law -/
namespace Dd
open PySem PySem.Spec PyProof.Rows L2 Dr Dh
theorem rgV_eq (n : Int) : rgV 0 n = ((List.range n.toNat).map fun i : Nat => (i : Int)).map V.int := by
  unfold rgV
  rw [List.map_map, Int.sub_zero]
  refine List.map_congr_left fun i _ => ?_
  show V.int (0 + (i : Int)) = V.int (i : Int)
  rw [Int.zero_add]
theorem rep_any (i : Nat) : (List.replicate i false).any id = false := by
  rw [List.any_eq_false]
  intro x hx
  rw [(List.mem_replicate.mp hx).2]
  decide
theorem rep_snocF (i : Nat) : (List.replicate i false).map V.bl ++ [V.bl false] = (List.replicate (i + 1) false).map V.bl := by
  rw [List.replicate_succ', List.map_append]; rfl
/-- where a leaf goes, and its birth there -/
theorem pl_get {born ms : List Int} (h : Dl.PerOk born.length ms) {x : Nat} {b : Int} (hb : born[x]? = some b) : ∃ j : Nat, Dl.pl ms (x : Nat) = j ∧ ms[x]? = some (j : Int) ∧ j < born.length ∧ (Dl.renB born ms)[j]? = some b := by
  have hx := (List.getElem?_eq_some_iff.mp hb).1
  obtain ⟨j, hj, e, f⟩ := h.pl_at hx
  obtain ⟨j', e', f'⟩ := (Dl.renB_ren h).to x b hb
  have : j = j' := by omega
  subst this
  exact ⟨j, e, f, hj, f'⟩
section
variable {P : Program} {w : World} {K : PySem.W.Frag} {mg : Str → Option Value} {base : Heap}
def spLaw (K : PySem.W.Frag) : Sp := fun vs H Q _ => ∃ (s : Addr) (ns : List Int), vs = [.ref s] ∧ SqL K H s (ns.map V.int) ∧ ∀ H', Q (.bl true) H'
theorem bd_law {C : Addr} (T : Txt K mg) (CT : ClT K mg C)
    (hpool : Has P w K mg base "_law_pool" 1 ["_law_script", "_law_k"] (spPool K)) (hone : Has P w K mg base "_law_one" 2 ["_law_source", "_law_things"] (spOne K)) (htake : Has P w K mg base "_law_take" 1 ["_law_source", "_law_top"] spTake)
    (hgreat : Has P w K mg base "_law_great" 3 ["_law_source"] (spGreat K)) (hdrawn : Has P w K mg base "_law_drawn" 4 ["_law_source", "_law_n"] (spDrawn K)) (hmc : Has P w K mg base "made_calendar" 3 ["born", "days"] (spMadeCal K C))
    (hshuf : Has P w K mg base "_law_shuffled" 2 ["_law_source", "_law_things"] (spShuf K)) (hrenK : HasK P w K mg base "renamed" 3 ["calendar", "places"] ["places", "calendar"] (fun zs => zs.reverse) (spRenamed K C))
    (hsizeK : HasK P w K mg base "size" 4 ["calendar"] ["calendar"] (fun zs => zs.reverse) (spSize K C)) (hsize : Has P w K mg base "size" 4 ["calendar"] (spSize K C))
    (hnthK : HasK P w K mg base "nth_tree" 7 ["calendar", "k"] ["k", "calendar"] (fun zs => zs.reverse) (spNthTree K C)) (hrtK : HasK P w K mg base "renamed_tree" 6 ["calendar", "tree", "places"] ["places", "tree", "calendar"] (fun zs => zs.reverse) (spRenTree K C))
    (histK : HasK P w K mg base "is_tree" 5 ["calendar", "thing"] ["thing", "calendar"] (fun zs => zs.reverse) (spIsTree K C)) (hmeet : Has P w K mg base "meeting" 4 ["calendar", "x", "y"] (spMeeting K C))
    (hmet : Has P w K mg base "met_on" 6 ["calendar", "tree", "x", "y"] (spMetOn K C)) (hmetK : HasK P w K mg base "met_on" 6 ["calendar", "tree", "x", "y"] ["y", "x", "tree", "calendar"] (fun zs => zs.reverse) (spMetOn K C)) :
    Body P w K mg base d_law 8 ["_law_script"] (spLaw K) := by
  refine body_mk (d := d_law) (N := ["_law_script", "_law_turn", "_law_source", "_law_n", "_law_born", "_law_days", "_law_calendar", "_law_places", "_law_other", "_law_many", "_law_x", "_law_tree", "_law_after", "_law_step", "_law_y"]) ⟨rfl, rfl, rfl, by decide +kernel, rfl, by decide +kernel, by decide +kernel⟩ (fun vs H Q E h => by obtain ⟨u, ns, rfl, _⟩ := h; rfl) (fun f cdv A outer s H vs Q E hr h => ?_)
  obtain ⟨sa, ns, rfl, hs, q⟩ := h
  have nd : (["_law_script", "_law_turn", "_law_source", "_law_n", "_law_born", "_law_days", "_law_calendar", "_law_places", "_law_other", "_law_many", "_law_x", "_law_tree", "_law_after", "_law_step", "_law_y"] : List Str).Nodup := by decide +kernel
  have rm : ∀ j, j ≤ 7 → Room j (A.deeper (envOfC d_law.qual d_law.scope s.heap.objs.size f cdv)) := fun j h => hr.mono h
  refine ⟨_, pss_cons (ps_for PassesOwn.never rfl (pi_range1 (by rfl) T.range (pa_cons pe_int pa_nil)) (pg_name (i := 1) nd rfl (Or.inl rfl))
      (pss_cons (ps_set (i := 2) nd rfl (Or.inl rfl) (pe_has hpool (rm 1 (by decide)) (pa_cons (pv 0) (pa_cons (pv 1) pa_nil))))
      (pss_cons (ps_set (i := 3) nd rfl (Or.inl rfl) (pe_has hone (rm 2 (by decide)) (pa_cons (pv 2) (pa_cons (pe_lst (pa_cons pe_int (pa_cons pe_int (pa_cons pe_int (pa_cons pe_int (pa_cons pe_int (pa_cons pe_int (pa_cons pe_int pa_nil)))))))) pa_nil))))
      (pss_cons (ps_asg (pe_cut (pe_ifExp (pt_cmpR op_eq (pv 3) pe_int (nomark _)) (pe_has hgreat (rm 3 (by decide)) (pa_cons (pv 2) pa_nil)) (pe_has hdrawn (rm 4 (by decide)) (pa_cons (pv 2) (pa_cons (pv 3) pa_nil)))))
        (pg_tup rfl (pgs_cons (pg_name (i := 4) nd rfl (Or.inr rfl)) (pgs_cons (pg_name (i := 5) nd rfl (Or.inl rfl)) pgs_nil))))
      (pss_cons (ps_asg (pe_tup (pa_cons (pe_has hmc (rm 3 (by decide)) (pa_cons (pv 4) (pa_cons (pv 5) pa_nil)))
          (pa_cons (pe_callTy (crTupX K rfl) (by rfl) T.tuple b_tuple (pa_cons (pe_has hshuf (rm 2 (by decide)) (pa_cons (pv 2) (pa_cons (pe_listRg rfl (by rfl) T.list (prg_1 (by rfl) T.range (pv 3))) pa_nil))) pa_nil)) pa_nil)))
        (pg_tup rfl (pgs_cons (pg_name (i := 6) nd rfl (Or.inl rfl)) (pgs_cons (pg_name (i := 7) nd rfl (Or.inr rfl)) pgs_nil))))
      (pss_cons (ps_asg (pe_tup (pa_cons (pe_hasK hrenK (rm 3 (by decide)) (pk_cons (pv 7) (pk_cons (pv 6) pk_nil))) (pa_cons (pe_hasK hsizeK (rm 4 (by decide)) (pk_cons (pv 6) pk_nil)) pa_nil)))
        (pg_tup rfl (pgs_cons (pg_name (i := 8) nd rfl (Or.inr rfl)) (pgs_cons (pg_name (i := 9) nd rfl (Or.inl rfl)) pgs_nil))))
      (pss_cons (ps_if (PW.pt (pw_or (pt_cmpR op_ne (pe_has hsize (rm 4 (by decide)) (pa_cons (pv 8) pa_nil)) (pv 9) (nomark _)) (pw_or (pt_cmpR (op_neD hr.units) (pe_fld (pv 8) rfl) (pv 5) (nomark _))
          (pw_or1 (pt_val (pe_callB (cr_any rfl) (by rfl) T.any b_any (pa_cons (pe_lc (own := [("_law_x", 10)]) (g := gName 10) (tt := tYes) rfl nd (pi_range1 (by rfl) T.range (pa_cons (pv 3) pa_nil))
            (blkOk_by (N := ["_law_script", "_law_turn", "_law_source", "_law_n", "_law_born", "_law_days", "_law_calendar", "_law_places", "_law_other", "_law_many", "_law_x", "_law_tree", "_law_after", "_law_step", "_law_y"]) (sc := d_law.scope) (by decide +kernel))
            (fun _ _ _ _ _ => pg_name (i := 10) nd rfl (Or.inl rfl)) (fun _ _ _ _ _ => pts_nil)
            (fun _ _ _ _ _ => pe_cmpR op_ne (pe_ix (ixT K rfl) (peFld K rfl (pv 8) rfl) (pe_ix (ixT K rfl) (pv 7) (pv 10) (fun _ _ => rfl)) (fun _ _ => rfl)) (pe_ix (ixT K rfl) (pv 4) (pv 10) (fun _ _ => rfl)) (nomark _))) pa_nil)))))))
        (pss_one (ps_ret pe_bl)) pss_nil)
      (pss_cons (ps_set (i := 11) nd rfl (Or.inl rfl) (pe_hasK hnthK hr (pk_cons (pe_has htake (rm 1 (by decide)) (pa_cons (pv 2) (pa_cons (pv 9) pa_nil))) (pk_cons (pv 6) pk_nil))))
      (pss_cons (ps_set (i := 12) nd rfl (Or.inl rfl) (pe_hasK hrtK (rm 6 (by decide)) (pk_cons (pv 7) (pk_cons (pv 11) (pk_cons (pv 6) pk_nil)))))
      (pss_cons (ps_if (pt_cmpR op_isnot_bl (pe_hasK histK (rm 5 (by decide)) (pk_cons (pv 12) (pk_cons (pv 8) pk_nil))) pe_bl (nomark _)) (pss_one (ps_ret pe_bl)) pss_nil)
      (pss_one (ps_for PassesOwn.never rfl (pi_range1 (by rfl) T.range (pa_cons (pe_cut (pe_ifExp (pt_cmpR op_gt (pv 3) pe_int (nomark _)) pe_int pe_int)) pa_nil)) (pg_name (i := 13) nd rfl (Or.inl rfl))
        (pss_cons (ps_set (i := 10) nd rfl (Or.inl rfl) (pe_has htake (rm 1 (by decide)) (pa_cons (pv 2) (pa_cons (pv 3) pa_nil))))
        (pss_cons (ps_set (i := 14) nd rfl (Or.inl rfl) (pe_op op_modN (pe_callTy call_int1 (by rfl) T.int b_int (pa_cons (pe_op op_add (pe_op op_add (pv 10) pe_int) (pe_has htake (rm 1 (by decide)) (pa_cons (pv 2) (pa_cons (pe_op op_sub (pv 3) pe_int) pa_nil)))) pa_nil)) (pv 3)))
        (pss_cons (ps_if (pt_cmpR (op_neD hr.units) (pe_has hmeet (rm 4 (by decide)) (pa_cons (pv 6) (pa_cons (pv 10) (pa_cons (pv 14) pa_nil))))
          (pe_has hmeet (rm 4 (by decide)) (pa_cons (pv 8) (pa_cons (pe_ix ix_tup (pv 7) (pv 10) (fun _ _ => rfl)) (pa_cons (pe_ix ix_tup (pv 7) (pv 14) (fun _ _ => rfl)) pa_nil)))) (nomark _)) (pss_one (ps_ret pe_bl)) pss_nil)
        (pss_one (ps_if (pt_cmpR op_ne (pe_has hmet (rm 6 (by decide)) (pa_cons (pv 6) (pa_cons (pv 11) (pa_cons (pv 10) (pa_cons (pv 14) pa_nil)))))
          (pe_hasK hmetK (rm 6 (by decide)) (pk_cons (pe_ix ix_tup (pv 7) (pv 14) (fun _ _ => rfl)) (pk_cons (pe_ix ix_tup (pv 7) (pv 10) (fun _ _ => rfl)) (pk_cons (pv 12) (pk_cons (pv 8) pk_nil))))) (nomark _)) (pss_one (ps_ret pe_bl)) pss_nil)))))))))))))))))
    (pss_one (ps_ret pe_bl)), ?_⟩
  refine ⟨3, rfl, by decide, by decide, for_it (walk_range (lo := 0) (n := 3)) (fun i σ H' => Same H H' ∧ ∃ z1 z2 z3 z4 z5 z6 z7 z8 z9 z10 z11 z12 z13 z14, σ = [some (.ref sa), z1, z2, z3, z4, z5, z6, z7, z8, z9, z10, z11, z12, z13, z14])
    ⟨Same.refl H, none, none, none, none, none, none, none, none, none, none, none, none, none, none, rfl⟩ (fun _ _ _ _ _ => trivial) ?_ ?_⟩
  rotate_left
  · rintro σ H1 ⟨_, _⟩
    exact q H1
  rintro i x σ H1 H2 hi ⟨s1, z1, z2, z3, z4, z5, z6, z7, z8, z9, z10, z11, z12, z13, z14, rfl⟩ ⟨rfl, rfl⟩
  show gName 1 (V.int (0 + (i : Int))) _ _ _
  rw [show (0 : Int) + (i : Int) = ((i : Nat) : Int) by omega]
  refine ⟨_, rfl, _, rfl, sa, ns, i, rfl, sqL_same s1 hs, by omega, fun l H3 s3 hl src => ?_⟩
  have hl0 := sm_none s1 hl
  have s13 := s1.trans s3
  refine ⟨_, rfl, by show 7 ≤ sizeLine; decide, fun t ht => ?_⟩
  refine ⟨l, t, [4, 3, 5, 6, 2, 1, 12], rfl, src.new ht, upd_same, (fun e => src.ne ht e.symm), by decide, by decide, fun H4 n sb4 src4 hn => ?_⟩
  have hn : n = 4 ∨ n = 3 ∨ n = 5 ∨ n = 6 ∨ n = 2 ∨ n = 1 ∨ n = 12 := by simpa using hn
  have n1 : 1 ≤ n ∧ n ≤ 12 := by omega
  have s14 : Same H H4 := ((Sb.refl.new ht).trans sb4).over s13 hl0
  refine ⟨fun v H' => ∃ r bv dv born ps, v = .ref r ∧ Sb l H4 H' ∧ Src H' l ∧ SqT K H' r [bv, dv] ∧ X1 H' bv born ∧ X2 K H' dv ps ∧ Dl.CalOk born ps ∧ (born.length : Int) = n, ?_, ?_⟩
  · refine ⟨_, rfl, rfl, _, rfl, ?_⟩
    refine ite2 (fun c => ?_) (fun c => ?_)
    · have e : n = 12 := by have := of_decide_eq_true c; injection this
      exact ⟨_, rfl, l, rfl, src4, fun r H' bv dv born ps sb sr hr hb hd ok hn => ⟨r, bv, dv, born, ps, rfl, sb, sr, hr, hb, hd, ok, by omega⟩⟩
    · exact ⟨_, rfl, _, rfl, l, n, rfl, src4, n1.1, n1.2, fun r H' bv dv born ps sb sr hr hb hd ok hn => ⟨r, bv, dv, born, ps, rfl, sb, sr, hr, hb, hd, ok, hn⟩⟩
  rintro v H5 ⟨r, bv, dv, born, ps, rfl, sb5, src5, hr5, hb, hd, ok, bl⟩
  have s15 := sb5.over s14 hl0
  refine ⟨r, _, rfl, hr5, rfl, _, _, rfl, _, _, rfl, rfl, ?_⟩
  -- the calendar, the places
  refine ⟨_, rfl, _, rfl, bv, dv, born, ps, rfl, hb, hd, ok, fun cv H6 s6 hcal => ?_⟩
  refine ⟨_, rfl, _, rfl, n, rfl, .of_le (by decide) (by omega) (by decide) (by omega), fun rg hrg => ?_⟩
  rw [rgV_eq]
  have src6 := (src5.same s6).new (o := .lst (((List.range n.toNat).map fun i : Nat => (i : Int)).map V.int)) hrg
  refine ⟨l, rg, _, rfl, src6, SqL.of upd_same, by simp; omega, fun z H7 ms sb7 src7 hz ez pm => ?_⟩
  have sb67 : Sb l H6 H7 := (Sb.refl.new hrg).trans sb7
  refine ⟨z, _, rfl, SqL.of ez, fun p o hp ho => ?_⟩
  refine ⟨by show 2 ≤ sizeLine; decide, fun r2 hr2 => ?_⟩
  have s78 := sm_new (o := .tup [cv, .ref p]) (sm_new (o := .frz o (.tup (ms.map V.int))) (Same.refl H7) hp) hr2
  have sb68 := sb67.same s78
  have src8 := src7.same s78
  have src60 := src5.same s6
  have hcal8 := hcal.sb src60 sb68
  have st58 : Stay K H5 _ := (sm_stay s6).trans (sb_stay src60 sb68)
  have hb8 := hb.mono st58
  have hd8 := hd.mono st58
  have hP : X1 (upd (upd H7 p (.frz o (.tup (ms.map V.int)))) r2 (.tup [cv, .ref p])) (.ref p) ms := ⟨p, rfl, o, upd_at upd_same hr2, ho⟩
  have s18 : Same H (upd (upd H7 p (.frz o (.tup (ms.map V.int)))) r2 (.tup [cv, .ref p])) := sb68.over (s15.trans s6) hl0
  have per : Dl.PerOk born.length ms := ⟨by rw [show born.length = n.toNat by omega]; exact pm⟩
  refine ⟨r2, _, rfl, SqT.of upd_same, rfl, _, _, rfl, _, _, rfl, rfl, ?_⟩
  generalize upd (upd H7 p (.frz o (.tup (ms.map V.int)))) r2 (.tup [cv, .ref p]) = H8 at src8 hcal8 hb8 hd8 hP s18 ⊢
  have n12 := ok.n12
  have cnt : ∀ b, (Dl.renB born ms).count b = born.count b := fun b => (Dl.renB_perm per).count_eq b
  have ok' := Dl.renB_cal per ok
  have len' := Dl.renB_len born ms
  -- the renamed one, the number of trees
  refine ⟨_, rfl, _, rfl, cv, .ref p, born, ps, ms, rfl, hcal8, hP, per, n12, fun ov H9 s9 hoth => ?_⟩
  refine ⟨_, rfl, cv, born, ps, rfl, hcal8.mono s9, ok, fun HA sA => ?_⟩
  refine ⟨by show 2 ≤ sizeLine; decide, fun r3 hr3 => ?_⟩
  have s8B := sm_new (o := .tup [ov, .int (Dl.sizeI born ps)]) (s9.trans sA) hr3
  have s9B := sm_new (o := .tup [ov, .int (Dl.sizeI born ps)]) sA hr3
  have srcB := src8.same s8B
  have hcalB := hcal8.mono s8B
  have hothB := hoth.mono s9B
  have hbB := hb8.same s8B
  have hdB := hd8.mono (sm_stay (K := K) s8B)
  have hPB := hP.same s8B
  have s1B := s18.trans s8B
  refine ⟨r3, _, rfl, SqT.of upd_same, rfl, _, _, rfl, _, _, rfl, rfl, ?_⟩
  generalize upd HA r3 (.tup [ov, .int (Dl.sizeI born ps)]) = HB at s8B s9B srcB hcalB hothB hbB hdB hPB s1B ⊢
  -- as many, the days, the births
  refine ⟨_, rfl, ov, Dl.renB born ms, ps, rfl, hothB, ok', fun HC sC => ?_⟩
  refine ⟨_, rfl, rfl, _, rfl, ?_⟩
  rw [size_congr ps cnt, decide_eq_true rfl]
  refine iteF ?_
  obtain ⟨po, dxo, bvo, dvo, rfl, hpo, ⟨abo, rfl, hbo⟩, hdo⟩ := hothB.mono sC
  have hdC := hdB.mono (sm_stay (K := K) sC)
  obtain ⟨ab, rfl, hbC⟩ := hbB.same sC
  obtain ⟨ap, eap, hPC⟩ := hPB.same sC
  cases eap
  refine ⟨_, rfl, po, C, dxo, _, dvo, rfl, hpo, CT.cl, CT.nd, rfl, _, rfl, d2 ps, d2 ps, hdo.t2.dp, hdC.t2.dp, sh2 _, sh2 _, _, rfl, ?_⟩
  rw [eqv2]
  refine iteF ?_
  refine ⟨_, rfl, _, rfl, by omega, by omega, fun D hD => ?_⟩
  refine lc_range (lo := 0) (n := n.toNat) (fun i H' => Same HC H' ∧ H' D = some (.lst ((List.replicate i false).map V.bl)))
    ⟨sm_new (Same.refl HC) hD, upd_same⟩ ?_ ?_
  · rintro k HD hk ⟨sD, eD⟩
    have hk2 : k < born.length := by omega
    have gb : born[k]? = some born[k] := List.getElem?_eq_getElem hk2
    obtain ⟨j, ej, fj, jl, gj⟩ := pl_get per gb
    have e0 : (0 : Int) + (k : Int) = ((k : Nat) : Int) := by omega
    refine ⟨rfl, lcY ?_⟩
    refine ⟨_, rfl, po, C, dxo, _, _, rfl, sD _ _ hpo, CT.cl, CT.nb, rfl, _, rfl, _, rfl, p, _, _, _, rfl, rfl, ((sm_stay (K := K) sD).x _ _ hPC).sqT, at_of (j := k) e0 (int_at fj), ?_⟩
    refine ⟨abo, _, _, _, rfl, rfl, ((sm_stay (K := K) sD).x _ _ hbo).sqT, atI_nat (int_at gj), ?_⟩
    refine ⟨_, rfl, _, rfl, ab, _, _, _, rfl, rfl, ((sm_stay (K := K) sD).x _ _ hbC).sqT, at_of (j := k) e0 (int_at gb), rfl, ?_⟩
    rw [decide_eq_true rfl]
    refine ⟨_, eD, lt_line (by simp; omega), sm_put sD hD, ?_⟩
    rw [← rep_snocF]
    exact upd_same
  rintro HD ⟨sD, eD⟩
  refine ⟨D, _, rfl, SqL.of eD, false, by rw [rep_any], iteF ?_⟩
  have sBD := sC.trans sD
  have srcD := srcB.same sBD
  have hcalD := hcalB.mono sBD
  have hothD := hothB.mono sBD
  have hPD := hPB.same sBD
  have s1D := s1B.trans sBD
  -- a tree
  have szb := Dl.size_bd ok
  refine ⟨_, rfl, _, rfl, l, _, rfl, srcD, szb.1, szb.2, fun HE k sbE srcE k0 k1 => ?_⟩
  have hcalE := hcalD.sb srcD sbE
  have hothE := hothD.sb srcD sbE
  have hPE := hPD.mono (sb_stay (K := K) srcD sbE)
  have s1E := sbE.over s1D hl0
  refine ⟨_, rfl, cv, born, ps, k, rfl, hcalE, ok, k0, k1, fun tv HF tree sF htr tok => ?_⟩
  have hT : TrV K C HF cv tv born ps tree := ⟨hcalE.mono sF, htr, tok, n12, by have := ok.dl; omega⟩
  have hPF := hPE.same sF
  refine ⟨_, rfl, _, rfl, _, rfl, cv, tv, .ref p, born, ps, tree, ms, rfl, hT, hPF.t1, per, fun av HG sG haft => ?_⟩
  have R := Dl.renB_ren per
  have hT' : TrV K C HG (.ref po) av (Dl.renB born ms) ps (Dl.renT born (Dl.pl ms) tree) := ⟨hothE.mono (sF.trans sG), haft, Dl.renT_ok R tok, by rw [len']; exact n12, by have := ok.dl; omega⟩
  refine ⟨_, rfl, _, rfl, .ref po, av, _, ps, _, rfl, hT', fun HI sI => ?_⟩
  refine ⟨_, _, rfl, rfl, _, rfl, ?_⟩
  rw [decide_eq_true rfl]
  refine iteF ?_
  have hTI := hT.same (sG.trans sI)
  have hTI' := hT'.same sI
  have hPI := hPF.same (sG.trans sI)
  have srcI := srcE.same ((sF.trans sG).trans sI)
  have s1I := s1E.trans ((sF.trans sG).trans sI)
  -- the pairs
  refine ⟨fun v H' => H' = HI ∧ ∃ j : Int, v = .int j ∧ 0 ≤ j ∧ j ≤ 6 ∧ (0 < j → 1 < n), ?_, ?_⟩
  · refine ⟨_, rfl, _, _, rfl, rfl, _, rfl, ?_⟩
    exact ite2 (fun c => ⟨rfl, 6, rfl, by decide, by decide, fun _ => of_decide_eq_true c⟩) (fun c => ⟨rfl, 0, rfl, by decide, by decide, fun h => absurd h (by decide)⟩)
  rintro v HJ ⟨rfl, j, rfl, j0, j6, jn⟩
  refine ⟨_, rfl, by omega, by omega, ?_⟩
  refine for_it (walk_range (lo := 0) (n := j.toNat)) (fun k σ H' => Sb l HJ H' ∧ Src H' l ∧ ∃ z10 z13 z14, σ = [some (.ref sa), some (.int (i : Nat)), some (.ref l), some (.int n), some (.ref ab), some dv, some cv, some (.ref p), some (.ref po), some (.int (Dl.sizeI born ps)), z10, some tv, some av, z13, z14])
    ⟨.refl, srcI, _, _, _, rfl⟩ (fun _ _ _ _ _ => trivial) ?_ ?_
  rotate_left
  · rintro σ HK ⟨sbK, srcK, z10, z13, z14, rfl⟩
    exact ⟨sbK.over s1I hl0, _, _, _, _, _, _, _, _, _, _, _, _, _, _, rfl⟩
  rintro k x σ HK HL hk ⟨sbK, srcK, z10, z13, z14, rfl⟩ ⟨rfl, rfl⟩
  have n2 : 1 < n := jn (by omega)
  refine ⟨_, rfl, _, rfl, l, n, rfl, srcK, n1.1, b400 (by omega), fun HM x sbM srcM x0 x1 => ?_⟩
  refine ⟨_, rfl, _, _, rfl, rfl, _, rfl, _, rfl, _, _, rfl, rfl, l, n - 1, rfl, srcM, by omega, b400 (by omega), fun HN y0 sbN srcN y00 y01 => ?_⟩
  refine ⟨_, _, rfl, rfl, .inl ⟨_, rfl, _, rfl, _, _, rfl, rfl, (by show n ≠ 0; omega), ?_⟩⟩
  obtain ⟨yn0, yn1, yne⟩ := y_mod x0 x1 y00 y01
  show gName 14 (V.int ((x + 1 + y0).fmod n)) _ _ _
  obtain ⟨y, ey⟩ : ∃ y : Nat, (x + 1 + y0).fmod n = (y : Nat) := ⟨((x + 1 + y0).fmod n).toNat, by omega⟩
  rw [ey] at yn0 yn1 yne ⊢
  obtain ⟨xn, rfl⟩ : ∃ xn : Nat, x = (xn : Nat) := ⟨x.toNat, by omega⟩
  have sbJN := (sbK.trans sbM).trans sbN
  have hTN := hTI.sb srcI sbJN
  have hTN' := hTI'.sb srcI sbJN
  have hPN := hPI.mono (sb_stay (K := K) srcI sbJN)
  have xl : xn < born.length := by omega
  have yl : y < born.length := by omega
  have gx : born[xn]? = some born[xn] := List.getElem?_eq_getElem xl
  have gy : born[y]? = some born[y] := List.getElem?_eq_getElem yl
  obtain ⟨jx, ejx, fjx, jxl, gjx⟩ := pl_get per gx
  obtain ⟨jy, ejy, fjy, jyl, gjy⟩ := pl_get per gy
  have jne : ((jx : Nat) : Int) ≠ ((jy : Nat) : Int) := fun e => yne (by
    have := R.inj xn y xl yl (by rw [ejx, ejy, e])
    omega)
  have pT : ∀ {H' : Hp}, Same HN H' → SqT K H' p (ms.map V.int) := fun {H'} s' => by
    obtain ⟨a, e, h⟩ := hPN.same s'
    cases e
    exact h.sqT
  refine ⟨_, rfl, _, rfl, _, rfl, cv, born, ps, (xn : Nat), (y : Nat), _, _, rfl, hTN.cal, ok, by omega, by omega, by omega, by omega, yne, gx, gy, fun m1 HO sO hm1 => ?_⟩
  have hTO' := hTN'.same sO
  refine ⟨_, rfl, _, rfl, _, rfl, p, _, _, _, rfl, rfl, pT sO, atI_nat (int_at fjx), _, rfl, _, rfl, p, _, _, _, rfl, rfl, pT sO, atI_nat (int_at fjy), ?_⟩
  refine ⟨.ref po, Dl.renB born ms, ps, (jx : Nat), (jy : Nat), born[xn], born[y], rfl, hTO'.cal, ok', by omega, by rw [len']; omega, by omega, by rw [len']; omega, jne, gjx, gjy, fun m2 HQ sQ hm2 => ?_⟩
  have emt : mtg (Dl.renB born ms) ps born[xn] born[y] = mtg born ps born[xn] born[y] := by
    unfold mtg
    rw [cs_congr ps cnt]
  rw [emt] at hm2
  refine ⟨d3 _, d3 _, (hm1.same sQ).dp, hm2.dp, sh3 _, sh3 _, _, rfl, ?_⟩
  rw [eqv3]
  refine iteF ?_
  have sNQ := sO.trans sQ
  have hTQ := hTN.same sNQ
  refine ⟨_, rfl, _, rfl, _, rfl, _, rfl, cv, tv, born, ps, tree, (xn : Nat), (y : Nat), rfl, hTQ, by omega, by omega, by omega, by omega, yne, fun HR sR => ?_⟩
  have sNR := sNQ.trans sR
  have hTR' := hTN'.same sNR
  refine ⟨_, rfl, _, rfl, p, _, _, _, rfl, rfl, pT sNR, atI_nat (int_at fjy), _, rfl, _, rfl, p, _, _, _, rfl, rfl, pT sNR, atI_nat (int_at fjx), _, rfl, _, rfl, ?_⟩
  refine ⟨.ref po, av, _, ps, _, (jx : Nat), (jy : Nat), rfl, hTR', by omega, by rw [len']; omega, by omega, by rw [len']; omega, jne, fun HS sS => ?_⟩
  have em := Dl.met_ren R tok xl yl
  rw [ejx, ejy] at em
  rw [em]
  refine ⟨scal_met _, _, rfl, ?_⟩
  rw [decide_eq_true rfl]
  exact iteF ⟨sbJN.same (sNR.trans sS), srcN.same (sNR.trans sS), _, _, _, rfl⟩
end
end Dd

/-! from the facts to the law -/
namespace Dd
open PySem PySem.Spec PyProof.Rows L2 Dr Dh
theorem giv_of {K : PySem.W.Frag} {h : Heap} {mg : Str → Option Value} {d : He.DefD} (X : K.In h) (G : h.Ns mainGlobals mg) (ha : d.at_ = (d.name, none)) (hv : d.dfl = []) (hk : d.kwd = []) (c1 : (He.Fa.glo d.name).ok K = true)
    (c2 : ∃ fd, FunD K d.name d.qual d.params d.body d.scope (d.dvs K) (d.kws K) (He.fAd K d.at_) fd) : Giv K mg d := by
  obtain ⟨fd, F⟩ := c2
  have e1 : d.dvs K = [] := by unfold He.DefD.dvs; rw [hv]; rfl
  have e2 : d.kws K = [] := by unfold He.DefD.kws; rw [hk]; rfl
  rw [e1, e2, ha] at F
  exact ⟨_, fd, He.glo_ok X G c1, F⟩
section
variable {P : Program} {w : World} {K : PySem.W.Frag} {h : Heap} {mg : Str → Option Value}
theorem ba5 {a b c d e : Bool} (h : (a && (b && (c && (d && e)))) = true) : a = true ∧ b = true ∧ c = true ∧ d = true ∧ e = true := by
  revert h
  cases a <;> cases b <;> cases c <;> cases d <;> cases e <;> decide
theorem txt_of (X : K.In h) (G : h.Ns mainGlobals mg) (c : He.SaysD fa fn K) (m : ex K = true) : Txt K mg := by
  obtain ⟨m1, m2, m3, m4, m5⟩ := ba5 m
  refine ⟨He.free_ok X G (c.fact 0 (f := .free "len") rfl), He.free_ok X G (c.fact 1 (f := .free "sum") rfl), He.free_ok X G (c.fact 2 (f := .free "sorted") rfl), He.free_ok X G (c.fact 3 (f := .free "tuple") rfl), He.free_ok X G (c.fact 4 (f := .free "set") rfl), He.free_ok X G (c.fact 5 (f := .free "range") rfl), He.free_ok X G (c.fact 6 (f := .free "enumerate") rfl), He.free_ok X G (c.fact 7 (f := .free "zip") rfl), He.free_ok X G (c.fact 8 (f := .free "min") rfl), He.free_ok X G (c.fact 9 (f := .free "max") rfl), He.free_ok X G (c.fact 10 (f := .free "int") rfl), He.free_ok X G (c.fact 11 (f := .free "list") rfl), He.free_ok X G (c.fact 12 (f := .free "isinstance") rfl), He.free_ok X G (c.fact 13 (f := .free "all") rfl), He.free_ok X G (c.fact 14 (f := .free "any") rfl), He.free_ok X G (c.fact 15 (f := .free "bool") rfl), He.free_ok X G (c.fact 16 (f := .free "dict") rfl),
    PySem.W.mg_of X G (He.eqO_ok m5), PySem.W.mg_of X G (He.eqO_ok m3), PySem.W.mg_of X G (He.eqO_ok m4),
    He.int_ok X G (c.fact 17 (f := .int "LEAST_GROUP" 2) rfl), He.int_ok X G (c.fact 18 (f := .int "MOST_LEAVES" 12) rfl), He.int_ok X G (c.fact 19 (f := .int "MOST_DAYS" 11) rfl), _, PySem.W.mg_of X G (He.eqO_ok m2), fun H => He.tupB_ok m1 H⟩
theorem clt_of (X : K.In h) (G : h.Ns mainGlobals mg) (c : He.SaysD fa fn K) : ClT K mg (He.ga K "Calendar") :=
  ⟨He.cls_ok (c.fact 21 (f := .cls "Calendar") rfl), He.noat_ok (c.fact 22 (f := .noat "Calendar" "born") rfl), He.noat_ok (c.fact 23 (f := .noat "Calendar" "days") rfl), He.glo_ok X G (c.fact 20 (f := .glo "Calendar") rfl)⟩
theorem ini_of (c : He.SaysD fa fn K) : IniT K (He.ga K "Calendar") := by
  obtain ⟨fd, F⟩ := c.def_ 50 (d := d_cal_init) rfl
  exact ⟨_, fd, He.mkr_ok (c.fact 24 (f := .mkr "Calendar") rfl), F⟩
theorem giv_is_number (X : K.In h) (G : h.Ns mainGlobals mg) (c : He.SaysD fa fn K) : Giv K mg d_is_number := giv_of X G rfl rfl rfl (c.fact 25 (f := .glo "is_number") rfl) (c.def_ 0 (d := d_is_number) rfl)
theorem giv_made_share (X : K.In h) (G : h.Ns mainGlobals mg) (c : He.SaysD fa fn K) : Giv K mg d_made_share := giv_of X G rfl rfl rfl (c.fact 26 (f := .glo "made_share") rfl) (c.def_ 1 (d := d_made_share) rfl)
theorem giv_share (X : K.In h) (G : h.Ns mainGlobals mg) (c : He.SaysD fa fn K) : Giv K mg d_share := giv_of X G rfl rfl rfl (c.fact 27 (f := .glo "share") rfl) (c.def_ 2 (d := d_share) rfl)
theorem giv_minus (X : K.In h) (G : h.Ns mainGlobals mg) (c : He.SaysD fa fn K) : Giv K mg d_minus := giv_of X G rfl rfl rfl (c.fact 28 (f := .glo "minus") rfl) (c.def_ 3 (d := d_minus) rfl)
theorem giv_times (X : K.In h) (G : h.Ns mainGlobals mg) (c : He.SaysD fa fn K) : Giv K mg d_times := giv_of X G rfl rfl rfl (c.fact 29 (f := .glo "times") rfl) (c.def_ 4 (d := d_times) rfl)
theorem giv_pairs_of (X : K.In h) (G : h.Ns mainGlobals mg) (c : He.SaysD fa fn K) : Giv K mg d_pairs_of := giv_of X G rfl rfl rfl (c.fact 30 (f := .glo "pairs_of") rfl) (c.def_ 5 (d := d_pairs_of) rfl)
theorem giv_is_pattern (X : K.In h) (G : h.Ns mainGlobals mg) (c : He.SaysD fa fn K) : Giv K mg d_is_pattern := giv_of X G rfl rfl rfl (c.fact 31 (f := .glo "is_pattern") rfl) (c.def_ 6 (d := d_is_pattern) rfl)
theorem giv_ways_of (X : K.In h) (G : h.Ns mainGlobals mg) (c : He.SaysD fa fn K) : Giv K mg d_ways_of := giv_of X G rfl rfl rfl (c.fact 32 (f := .glo "ways_of") rfl) (c.def_ 7 (d := d_ways_of) rfl)
theorem giv_counts_of (X : K.In h) (G : h.Ns mainGlobals mg) (c : He.SaysD fa fn K) : Giv K mg d_counts_of := giv_of X G rfl rfl rfl (c.fact 33 (f := .glo "counts_of") rfl) (c.def_ 8 (d := d_counts_of) rfl)
theorem giv_made_calendar (X : K.In h) (G : h.Ns mainGlobals mg) (c : He.SaysD fa fn K) : Giv K mg d_made_calendar := giv_of X G rfl rfl rfl (c.fact 34 (f := .glo "made_calendar") rfl) (c.def_ 9 (d := d_made_calendar) rfl)
theorem giv_want_places (X : K.In h) (G : h.Ns mainGlobals mg) (c : He.SaysD fa fn K) : Giv K mg d_want_places := giv_of X G rfl rfl rfl (c.fact 35 (f := .glo "want_places") rfl) (c.def_ 10 (d := d_want_places) rfl)
theorem giv_renamed (X : K.In h) (G : h.Ns mainGlobals mg) (c : He.SaysD fa fn K) : Giv K mg d_renamed := giv_of X G rfl rfl rfl (c.fact 36 (f := .glo "renamed") rfl) (c.def_ 11 (d := d_renamed) rfl)
theorem giv_want_leaf (X : K.In h) (G : h.Ns mainGlobals mg) (c : He.SaysD fa fn K) : Giv K mg d_want_leaf := giv_of X G rfl rfl rfl (c.fact 37 (f := .glo "want_leaf") rfl) (c.def_ 12 (d := d_want_leaf) rfl)
theorem giv_want_pair (X : K.In h) (G : h.Ns mainGlobals mg) (c : He.SaysD fa fn K) : Giv K mg d_want_pair := giv_of X G rfl rfl rfl (c.fact 38 (f := .glo "want_pair") rfl) (c.def_ 13 (d := d_want_pair) rfl)
theorem giv_counts (X : K.In h) (G : h.Ns mainGlobals mg) (c : He.SaysD fa fn K) : Giv K mg d_counts := giv_of X G rfl rfl rfl (c.fact 39 (f := .glo "counts") rfl) (c.def_ 14 (d := d_counts) rfl)
theorem giv_pair_chance (X : K.In h) (G : h.Ns mainGlobals mg) (c : He.SaysD fa fn K) : Giv K mg d_pair_chance := giv_of X G rfl rfl rfl (c.fact 40 (f := .glo "pair_chance") rfl) (c.def_ 15 (d := d_pair_chance) rfl)
theorem giv_first_days (X : K.In h) (G : h.Ns mainGlobals mg) (c : He.SaysD fa fn K) : Giv K mg d_first_days := giv_of X G rfl rfl rfl (c.fact 41 (f := .glo "first_days") rfl) (c.def_ 16 (d := d_first_days) rfl)
theorem giv_meeting (X : K.In h) (G : h.Ns mainGlobals mg) (c : He.SaysD fa fn K) : Giv K mg d_meeting := giv_of X G rfl rfl rfl (c.fact 42 (f := .glo "meeting") rfl) (c.def_ 17 (d := d_meeting) rfl)
theorem giv_with_newborn (X : K.In h) (G : h.Ns mainGlobals mg) (c : He.SaysD fa fn K) : Giv K mg d_with_newborn := giv_of X G rfl rfl rfl (c.fact 43 (f := .glo "with_newborn") rfl) (c.def_ 18 (d := d_with_newborn) rfl)
theorem giv_behind_row (X : K.In h) (G : h.Ns mainGlobals mg) (c : He.SaysD fa fn K) : Giv K mg d_behind_row := giv_of X G rfl rfl rfl (c.fact 44 (f := .glo "behind_row") rfl) (c.def_ 19 (d := d_behind_row) rfl)
theorem giv_is_group (X : K.In h) (G : h.Ns mainGlobals mg) (c : He.SaysD fa fn K) : Giv K mg d_is_group := giv_of X G rfl rfl rfl (c.fact 45 (f := .glo "is_group") rfl) (c.def_ 20 (d := d_is_group) rfl)
theorem giv_is_row (X : K.In h) (G : h.Ns mainGlobals mg) (c : He.SaysD fa fn K) : Giv K mg d_is_row := giv_of X G rfl rfl rfl (c.fact 46 (f := .glo "is_row") rfl) (c.def_ 21 (d := d_is_row) rfl)
theorem giv_first_bad (X : K.In h) (G : h.Ns mainGlobals mg) (c : He.SaysD fa fn K) : Giv K mg d_first_bad := giv_of X G rfl rfl rfl (c.fact 47 (f := .glo "first_bad") rfl) (c.def_ 22 (d := d_first_bad) rfl)
theorem giv_is_tree (X : K.In h) (G : h.Ns mainGlobals mg) (c : He.SaysD fa fn K) : Giv K mg d_is_tree := giv_of X G rfl rfl rfl (c.fact 48 (f := .glo "is_tree") rfl) (c.def_ 23 (d := d_is_tree) rfl)
theorem giv_want_tree (X : K.In h) (G : h.Ns mainGlobals mg) (c : He.SaysD fa fn K) : Giv K mg d_want_tree := giv_of X G rfl rfl rfl (c.fact 49 (f := .glo "want_tree") rfl) (c.def_ 24 (d := d_want_tree) rfl)
theorem giv_without (X : K.In h) (G : h.Ns mainGlobals mg) (c : He.SaysD fa fn K) : Giv K mg d_without := giv_of X G rfl rfl rfl (c.fact 50 (f := .glo "without") rfl) (c.def_ 25 (d := d_without) rfl)
theorem giv_ended (X : K.In h) (G : h.Ns mainGlobals mg) (c : He.SaysD fa fn K) : Giv K mg d_ended := giv_of X G rfl rfl rfl (c.fact 51 (f := .glo "ended") rfl) (c.def_ 26 (d := d_ended) rfl)
theorem giv_begun (X : K.In h) (G : h.Ns mainGlobals mg) (c : He.SaysD fa fn K) : Giv K mg d_begun := giv_of X G rfl rfl rfl (c.fact 52 (f := .glo "begun") rfl) (c.def_ 27 (d := d_begun) rfl)
theorem giv_nth_group (X : K.In h) (G : h.Ns mainGlobals mg) (c : He.SaysD fa fn K) : Giv K mg d_nth_group := giv_of X G rfl rfl rfl (c.fact 53 (f := .glo "nth_group") rfl) (c.def_ 28 (d := d_nth_group) rfl)
theorem giv_later_names (X : K.In h) (G : h.Ns mainGlobals mg) (c : He.SaysD fa fn K) : Giv K mg d_later_names := giv_of X G rfl rfl rfl (c.fact 54 (f := .glo "later_names") rfl) (c.def_ 29 (d := d_later_names) rfl)
theorem giv_groups_at (X : K.In h) (G : h.Ns mainGlobals mg) (c : He.SaysD fa fn K) : Giv K mg d_groups_at := giv_of X G rfl rfl rfl (c.fact 55 (f := .glo "groups_at") rfl) (c.def_ 30 (d := d_groups_at) rfl)
theorem giv_day_ways (X : K.In h) (G : h.Ns mainGlobals mg) (c : He.SaysD fa fn K) : Giv K mg d_day_ways := giv_of X G rfl rfl rfl (c.fact 56 (f := .glo "day_ways") rfl) (c.def_ 31 (d := d_day_ways) rfl)
theorem giv_size (X : K.In h) (G : h.Ns mainGlobals mg) (c : He.SaysD fa fn K) : Giv K mg d_size := giv_of X G rfl rfl rfl (c.fact 57 (f := .glo "size") rfl) (c.def_ 32 (d := d_size) rfl)
theorem giv_born_on (X : K.In h) (G : h.Ns mainGlobals mg) (c : He.SaysD fa fn K) : Giv K mg d_born_on := giv_of X G rfl rfl rfl (c.fact 58 (f := .glo "born_on") rfl) (c.def_ 33 (d := d_born_on) rfl)
theorem giv_names_behind (X : K.In h) (G : h.Ns mainGlobals mg) (c : He.SaysD fa fn K) : Giv K mg d_names_behind := giv_of X G rfl rfl rfl (c.fact 59 (f := .glo "names_behind") rfl) (c.def_ 34 (d := d_names_behind) rfl)
theorem giv_tree_at (X : K.In h) (G : h.Ns mainGlobals mg) (c : He.SaysD fa fn K) : Giv K mg d_tree_at := giv_of X G rfl rfl rfl (c.fact 60 (f := .glo "tree_at") rfl) (c.def_ 35 (d := d_tree_at) rfl)
theorem giv_nth_tree (X : K.In h) (G : h.Ns mainGlobals mg) (c : He.SaysD fa fn K) : Giv K mg d_nth_tree := giv_of X G rfl rfl rfl (c.fact 61 (f := .glo "nth_tree") rfl) (c.def_ 36 (d := d_nth_tree) rfl)
theorem giv_lines_ahead (X : K.In h) (G : h.Ns mainGlobals mg) (c : He.SaysD fa fn K) : Giv K mg d_lines_ahead := giv_of X G rfl rfl rfl (c.fact 62 (f := .glo "lines_ahead") rfl) (c.def_ 37 (d := d_lines_ahead) rfl)
theorem giv_line_with (X : K.In h) (G : h.Ns mainGlobals mg) (c : He.SaysD fa fn K) : Giv K mg d_line_with := giv_of X G rfl rfl rfl (c.fact 63 (f := .glo "line_with") rfl) (c.def_ 38 (d := d_line_with) rfl)
theorem giv_renamed_tree (X : K.In h) (G : h.Ns mainGlobals mg) (c : He.SaysD fa fn K) : Giv K mg d_renamed_tree := giv_of X G rfl rfl rfl (c.fact 64 (f := .glo "renamed_tree") rfl) (c.def_ 39 (d := d_renamed_tree) rfl)
theorem giv_first_day (X : K.In h) (G : h.Ns mainGlobals mg) (c : He.SaysD fa fn K) : Giv K mg d_first_day := giv_of X G rfl rfl rfl (c.fact 65 (f := .glo "first_day") rfl) (c.def_ 40 (d := d_first_day) rfl)
theorem giv_met_on (X : K.In h) (G : h.Ns mainGlobals mg) (c : He.SaysD fa fn K) : Giv K mg d_met_on := giv_of X G rfl rfl rfl (c.fact 66 (f := .glo "met_on") rfl) (c.def_ 41 (d := d_met_on) rfl)
theorem giv_law_pool (X : K.In h) (G : h.Ns mainGlobals mg) (c : He.SaysD fa fn K) : Giv K mg d_law_pool := giv_of X G rfl rfl rfl (c.fact 67 (f := .glo "_law_pool") rfl) (c.def_ 42 (d := d_law_pool) rfl)
theorem giv_law_take (X : K.In h) (G : h.Ns mainGlobals mg) (c : He.SaysD fa fn K) : Giv K mg d_law_take := giv_of X G rfl rfl rfl (c.fact 68 (f := .glo "_law_take") rfl) (c.def_ 43 (d := d_law_take) rfl)
theorem giv_law_one (X : K.In h) (G : h.Ns mainGlobals mg) (c : He.SaysD fa fn K) : Giv K mg d_law_one := giv_of X G rfl rfl rfl (c.fact 69 (f := .glo "_law_one") rfl) (c.def_ 44 (d := d_law_one) rfl)
theorem giv_law_shuffled (X : K.In h) (G : h.Ns mainGlobals mg) (c : He.SaysD fa fn K) : Giv K mg d_law_shuffled := giv_of X G rfl rfl rfl (c.fact 70 (f := .glo "_law_shuffled") rfl) (c.def_ 45 (d := d_law_shuffled) rfl)
theorem giv_law_pattern (X : K.In h) (G : h.Ns mainGlobals mg) (c : He.SaysD fa fn K) : Giv K mg d_law_pattern := giv_of X G rfl rfl rfl (c.fact 71 (f := .glo "_law_pattern") rfl) (c.def_ 46 (d := d_law_pattern) rfl)
theorem giv_law_drawn (X : K.In h) (G : h.Ns mainGlobals mg) (c : He.SaysD fa fn K) : Giv K mg d_law_drawn := giv_of X G rfl rfl rfl (c.fact 72 (f := .glo "_law_drawn") rfl) (c.def_ 47 (d := d_law_drawn) rfl)
theorem giv_law_great (X : K.In h) (G : h.Ns mainGlobals mg) (c : He.SaysD fa fn K) : Giv K mg d_law_great := giv_of X G rfl rfl rfl (c.fact 73 (f := .glo "_law_great") rfl) (c.def_ 48 (d := d_law_great) rfl)
theorem giv_law (X : K.In h) (G : h.Ns mainGlobals mg) (c : He.SaysD fa fn K) : Giv K mg d_law := giv_of X G rfl rfl rfl (c.fact 74 (f := .glo "law") rfl) (c.def_ 49 (d := d_law) rfl)
theorem law_ok (X : K.In h) (G : h.Ns mainGlobals mg) (c : He.SaysD fa fn K) (m : ex K = true) (base : Heap) : Body P w K mg base d_law 8 ["_law_script"] (spLaw K) := by
  have T := txt_of X G c m
  have CT := clt_of X G c
  have IT := ini_of c
  generalize He.ga K "Calendar" = C at CT IT
  have h_number := ok_is_number (P := P) (w := w) (base := base) T (giv_is_number X G c)
  have h_mks := ok_made_share (P := P) (w := w) (base := base) T (giv_made_share X G c)
  have h_share := ok_share (P := P) (w := w) (base := base) T (giv_share X G c) h_mks
  have h_times := ok_times (P := P) (w := w) (base := base) T (giv_times X G c) h_mks
  have h_minus := ok_minus (P := P) (w := w) (base := base) T (giv_minus X G c) h_mks
  have h_pairs := ok_pairs_of (P := P) (w := w) (base := base) T (giv_pairs_of X G c)
  have h_ispat := ok_is_pattern (P := P) (w := w) (base := base) T (giv_is_pattern X G c) h_number
  have h_ways := ok_ways_of (P := P) (w := w) (base := base) T (giv_ways_of X G c)
  have h_cntof := ok_counts_of (P := P) (w := w) (base := base) T (giv_counts_of X G c)
  have h_mcal := ok_made_calendar (P := P) (w := w) (base := base) T CT IT (giv_made_calendar X G c) h_number h_ispat h_cntof
  have h_wpl := ok_want_places (P := P) (w := w) (base := base) T (giv_want_places X G c)
  have h_bren := (bd_renamed (P := P) (w := w) (base := base) T CT IT h_wpl)
  have h_wleaf := ok_want_leaf (P := P) (w := w) (base := base) T CT (giv_want_leaf X G c)
  have h_wpair := ok_want_pair (P := P) (w := w) (base := base) T CT (giv_want_pair X G c) h_wleaf
  have h_cnt := ok_counts (P := P) (w := w) (base := base) T CT (giv_counts X G c) h_cntof
  have h_pch := ok_pair_chance (P := P) (w := w) (base := base) T (giv_pair_chance X G c) h_share
  have h_fdays := ok_first_days (P := P) (w := w) (base := base) T CT (giv_first_days X G c) h_times h_minus h_pairs
  have h_meet := ok_meeting (P := P) (w := w) (base := base) T CT (giv_meeting X G c) h_wpair h_cnt h_pch h_fdays
  have h_wn := ok_with_newborn (P := P) (w := w) (base := base) T CT (giv_with_newborn X G c)
  have h_br := ok_behind_row (P := P) (w := w) (base := base) T (giv_behind_row X G c)
  have h_isg := ok_is_group (P := P) (w := w) (base := base) T (giv_is_group X G c) h_number
  have h_isr := ok_is_row (P := P) (w := w) (base := base) T (giv_is_row X G c) h_isg
  have h_fbad := ok_first_bad (P := P) (w := w) (base := base) T CT (giv_first_bad X G c) h_wn h_br h_isr
  have h_bist := (bd_is_tree (P := P) (w := w) (base := base) T CT h_fbad)
  have h_wtree := ok_want_tree (P := P) (w := w) (base := base) T CT (giv_want_tree X G c) h_fbad
  have h_wo := ok_without (P := P) (w := w) (base := base) (giv_without X G c)
  have h_ended := ok_ended (P := P) (w := w) (base := base) T (giv_ended X G c) h_ways h_wo
  have h_begun := ok_begun (P := P) (w := w) (base := base) T (giv_begun X G c) h_ended
  have h_nthg := ok_nth_group (P := P) (w := w) (base := base) T (giv_nth_group X G c) h_ended h_begun
  have h_later := ok_later_names (P := P) (w := w) (base := base) T (giv_later_names X G c)
  have h_groups := ok_groups_at (P := P) (w := w) (base := base) T (giv_groups_at X G c) h_nthg h_later h_wo
  have h_dways := ok_day_ways (P := P) (w := w) (base := base) T CT (giv_day_ways X G c) h_cnt h_ways
  have h_bsize := (bd_size (P := P) (w := w) (base := base) T h_dways)
  have h_size := has_of (P := P) (w := w) (base := base) (giv_size X G c) h_bsize (fun _ _ _ _ _ _ us hl => match us, hl with | [_], _ => rfl)
  have h_bornon := ok_born_on (P := P) (w := w) (base := base) T CT (giv_born_on X G c)
  have h_nbeh := ok_names_behind (P := P) (w := w) (base := base) T (giv_names_behind X G c)
  have h_treeat := ok_tree_at (P := P) (w := w) (base := base) T CT (giv_tree_at X G c) h_dways h_bornon h_groups h_nbeh
  have h_bnth := (bd_nth_tree (P := P) (w := w) (base := base) T h_size h_treeat)
  have h_ahead := ok_lines_ahead (P := P) (w := w) (base := base) T (giv_lines_ahead X G c) h_wn h_br
  have h_lwith := ok_line_with (P := P) (w := w) (base := base) T (giv_line_with X G c)
  have h_brt := (bd_renamed_tree (P := P) (w := w) (base := base) T CT h_wtree h_wpl h_ahead)
  have h_fday := ok_first_day (P := P) (w := w) (base := base) T CT (giv_first_day X G c) h_ahead h_br h_lwith
  have h_bmet := (bd_met_on (P := P) (w := w) (base := base) T h_wtree h_wpair h_fday)
  have h_met := has_of (P := P) (w := w) (base := base) (giv_met_on X G c) h_bmet (fun _ _ _ _ _ _ us hl => match us, hl with | [_, _, _, _], _ => rfl)
  have h_pool := ok_law_pool (P := P) (w := w) (base := base) T (giv_law_pool X G c)
  have h_take := ok_law_take (P := P) (w := w) (base := base) T (giv_law_take X G c)
  have h_one := ok_law_one (P := P) (w := w) (base := base) T (giv_law_one X G c) h_take
  have h_shuf := ok_law_shuffled (P := P) (w := w) (base := base) T (giv_law_shuffled X G c) h_take
  have h_patn := ok_law_pattern (P := P) (w := w) (base := base) T (giv_law_pattern X G c) h_take h_one
  have h_drawn := ok_law_drawn (P := P) (w := w) (base := base) T (giv_law_drawn X G c) h_take h_patn h_shuf
  have h_great := ok_law_great (P := P) (w := w) (base := base) T (giv_law_great X G c) h_take h_shuf
  exact bd_law T CT h_pool h_one h_take h_great h_drawn h_mcal h_shuf (hasK_rev (giv_renamed X G c) h_bren rfl (fun _ _ _ _ _ _ ws hl => match ws, hl with | [_, _], _ => rfl)) (hasK_rev (giv_size X G c) h_bsize rfl (fun _ _ _ _ _ _ ws hl => match ws, hl with | [_], _ => rfl)) h_size
    (hasK_rev (giv_nth_tree X G c) h_bnth rfl (fun _ _ _ _ _ _ ws hl => match ws, hl with | [_, _], _ => rfl)) (hasK_rev (giv_renamed_tree X G c) h_brt rfl (fun _ _ _ _ _ _ ws hl => match ws, hl with | [_, _, _], _ => rfl))
    (hasK_rev (giv_is_tree X G c) h_bist rfl (fun _ _ _ _ _ _ ws hl => match ws, hl with | [_, _], _ => rfl)) h_meet h_met (hasK_rev (giv_met_on X G c) h_bmet rfl (fun _ _ _ _ _ _ ws hl => match ws, hl with | [_, _, _, _], _ => rfl))
theorem facts {f : Addr} (X : K.In h) (G : h.Ns mainGlobals mg) (hfa : mg ("law" : Str) = some (.ref f)) (c : He.SaysD fa fn K) (m : ex K = true) :
    ∃ fd : FuncData, (∀ (s : Shared) (v : Value), BindsTo s fd ⟨[v], []⟩ [("_law_script", v)]) ∧ ∀ base : Heap, FnOk P w K mg base CX0 8 f fd ["_law_script"] (spLaw K) := by
  obtain ⟨fd, F⟩ := c.def_ 49 (d := d_law) rfl
  have e := hfa.symm.trans (He.glo_ok X G (c.fact 74 (f := .glo "law") rfl))
  cases e
  have b := FunD.bindsA (ps := ["_law_script"]) F fun _ _ _ _ _ _ us hl => match us, hl with | [_], _ => rfl
  exact ⟨fd, fun s v => b s [v] rfl, fun base => (law_ok X G c m base).ok _ fd F⟩
end
end Dd

namespace Dh
open PySem PySem.Spec PyProof.Rows L2
abbrev R : PySem.W.OpenRow := PySem.W.OpenLaw.row PySem.Challenge.rw_datedlines_k54_leaves_renamed
abbrev hk : PySem.W.Hook := He.hookX 4 fa fn [] [] ex
def ob (s : PySem.W.SharedT) : He.AlX := He.obsX 4 fa fn [] [] ex (HandSHeadRun.getT s)
theorem ob_eq (s : PySem.W.SharedT) : ob s = hk.obs s.abs := He.obsX_eq (HandSHeadRun.getT_eq s)
def loose0 : List Str := [("Refused" : Str), ("BadSize" : Str), ("BadBirth" : Str), ("BadDay" : Str), ("TooFew" : Str), ("BadRow" : Str), ("BadCount" : Str), ("BadLeaf" : Str), ("BadSet" : Str), ("ONE" : Str), ("is_number" : Str), ("made_share" : Str), ("share" : Str), ("minus" : Str), ("times" : Str), ("pairs_of" : Str), ("LEAST_GROUP" : Str), ("is_pattern" : Str), ("ways_of" : Str), ("MOST_LEAVES" : Str), ("MOST_DAYS" : Str), ("Calendar" : Str), ("counts_of" : Str), ("made_calendar" : Str), ("want_places" : Str), ("renamed" : Str), ("want_leaf" : Str), ("want_pair" : Str), ("counts" : Str), ("pair_chance" : Str), ("first_days" : Str), ("meeting" : Str), ("with_newborn" : Str), ("behind_row" : Str), ("is_group" : Str)]
def loose1 : List Str := [("is_row" : Str), ("first_bad" : Str), ("is_tree" : Str), ("want_tree" : Str), ("without" : Str), ("ended" : Str), ("begun" : Str), ("nth_group" : Str), ("later_names" : Str), ("groups_at" : Str), ("day_ways" : Str), ("size" : Str), ("born_on" : Str), ("names_behind" : Str), ("tree_at" : Str), ("nth_tree" : Str), ("lines_ahead" : Str), ("line_with" : Str), ("renamed_tree" : Str), ("first_day" : Str), ("met_on" : Str), ("_law_pool" : Str), ("_law_take" : Str), ("_law_one" : Str), ("_law_shuffled" : Str), ("_law_pattern" : Str), ("_law_drawn" : Str), ("_law_groups" : Str), ("_law_picks" : Str), ("_law_joined" : Str), ("_law_ahead" : Str), ("_law_trees" : Str), ("_law_world" : Str), ("_law_share" : Str), ("_law_pairs" : Str)]
def loose2 : List Str := [("_law_is_share" : Str), ("_law_great" : Str)]
def loose : List Str := loose0 ++ loose1 ++ loose2
theorem run (w : World) : HandSHeadRun.RunEqI R (PySem.W.view R.prog [0, 87]) hk ob 6000 loose w := by
  unfold HandSHeadRun.RunEqI
  kernel_rfl
end Dh

open PySem PySem.W PySem.Calls PyProof.Rows
theorem PySem.Challenge.cw_datedlines_k54_leaves_renamed_holds : PySem.Challenge.rw_datedlines_k54_leaves_renamed.Holds := by
  w_on; o_law
  refine HandSHeadRun.head_imp (r := OpenLaw.row PySem.Challenge.rw_datedlines_k54_leaves_renamed) (q := view (OpenLaw.row PySem.Challenge.rw_datedlines_k54_leaves_renamed).prog [0, 87]) (H := Dh.hk) (ob := Dh.ob) (M := 6000) (loose := Dh.loose)
    (d := HandSHeadRun.topDef (OpenLaw.row PySem.Challenge.rw_datedlines_k54_leaves_renamed).prog 87) (kwd := []) Dh.ob_eq Dh.run
    (by kernel_rfl) (by kernel_rfl) (by kernel_rfl) (by rfl) (by first | assumption | decide +kernel) (by decide +kernel) ⟨rfl, rfl, rfl, rfl, rfl, by decide +kernel⟩ ?hw ?hc
  case hw => w_witness2
  case hc =>
    refine L2.walk_ofE (l := PySem.Challenge.rw_datedlines_k54_leaves_renamed) (n := 63) (k := 8) (x := "_law_script") (CX := L2.CX0) rfl (by decide) (by kernel_rfl) ⟨rfl, by decide, by decide⟩ ?F (fun _ _ _ _ z => z)
    intro w mg fa h Y G hmg0
    obtain ⟨K, KX, c⟩ := Y
    have hmg : mg ("law" : PySem.Str) = some (.ref fa) := by
      have e : (HandSHeadRun.topDef (OpenLaw.row PySem.Challenge.rw_datedlines_k54_leaves_renamed).prog 87).name = ("law" : PySem.Str) := by kernel_rfl
      rw [← e]
      exact hmg0
    obtain ⟨fd, hb, hF⟩ := Dd.facts (P := (PySem.Challenge.rw_datedlines_k54_leaves_renamed).prog) (w := w) KX G hmg c.t.d c.more
    exact ⟨K, fd, Dd.spLaw K, KX, hb, fun H a ns hl _ hS => ⟨a, ns, rfl, hS, fun _ => rfl⟩, fun base _ _ => hF base⟩
